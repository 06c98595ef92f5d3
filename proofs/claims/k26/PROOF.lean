import PyProof.Rows.All
import Wide.All
import OpenK.AllK
import Wide.FinOn
import HandS.ForMost
import HandS.Deep
import HandS.TupAny
import HandS.IsInst
import HandS.Zip
import HandS.RevRange
import HandS.Style
import HandS.Flow
import HandS.Gcd
import HandS.Walk
import HandS.Conv
import HandS.SortOrd
import KE.KDictKeyed
import KE.KDictDisplayH
import KE.SortData
import KE.DataMinMax
import HandS.Head0
import HandS.Head1
import HandS.Head2
import HandS.HeadEnd
import HandS.HeadHook1
import HandS.HeadHook2
import HandS.Defaults
import PySem.Challenge.RW_everychange_k26_whole_rows_whose_parts_g
section
/-! Rows whose parts go together: the plain mathematics. c p q: the parts p, q go together. -/
set_option autoImplicit false
set_option linter.all false
namespace K26
abbrev Lt := Int × Int
abbrev Rw := List Lt

structure Com (c : Int → Int → Bool) : Prop where
  sy : ∀ p q, c p q = c q p
  ir : ∀ p, c p p = false

/-! ### projections -/
def keepB (p q : Int) (x : Lt) : Bool := x.1 == p || x.1 == q
def pj (p q : Int) (r : Rw) : Rw := r.filter (keepB p q)
theorem pj_nil (p q : Int) : pj p q [] = [] := rfl
theorem pj_yes {p q : Int} {x : Lt} (r : Rw) (h : x.1 = p ∨ x.1 = q) : pj p q (x :: r) = x :: pj p q r := by
  unfold pj
  rw [List.filter_cons_of_pos]
  rcases h with h | h <;> simp [keepB, h]
theorem pj_no {p q : Int} {x : Lt} (r : Rw) (h : ¬ (x.1 = p ∨ x.1 = q)) : pj p q (x :: r) = pj p q r := by
  unfold pj
  rw [List.filter_cons_of_neg]
  simp [keepB]
  exact ⟨fun z => h (.inl z), fun z => h (.inr z)⟩
theorem pj_append (p q : Int) (r s : Rw) : pj p q (r ++ s) = pj p q r ++ pj p q s := by
  unfold pj
  rw [List.filter_append]
theorem pj_reverse (p q : Int) (r : Rw) : pj p q r.reverse = (pj p q r).reverse := by
  unfold pj
  rw [List.filter_reverse]

/-! ### the same up to exchanging -/
def Eqv (c : Int → Int → Bool) (r s : Rw) : Prop := ∀ p q, c p q = false → pj p q r = pj p q s

section
variable {c : Int → Int → Bool}
theorem Eqv.refl (r : Rw) : Eqv c r r := fun _ _ _ => rfl
theorem Eqv.of_eq {r s : Rw} (h : r = s) : Eqv c r s := h ▸ Eqv.refl r
theorem Eqv.symm {r s : Rw} (h : Eqv c r s) : Eqv c s r := fun p q e => (h p q e).symm
theorem Eqv.trans {r s t : Rw} (h : Eqv c r s) (g : Eqv c s t) : Eqv c r t := fun p q e => (h p q e).trans (g p q e)
theorem Eqv.cons {r s : Rw} (x : Lt) (h : Eqv c r s) : Eqv c (x :: r) (x :: s) := fun p q e => by
  by_cases hx : x.1 = p ∨ x.1 = q
  · rw [pj_yes _ hx, pj_yes _ hx, h p q e]
  · rw [pj_no _ hx, pj_no _ hx, h p q e]
theorem Eqv.uncons {r s : Rw} {x : Lt} (h : Eqv c (x :: r) (x :: s)) : Eqv c r s := fun p q e => by
  have h1 := h p q e
  by_cases hx : x.1 = p ∨ x.1 = q
  · rw [pj_yes _ hx, pj_yes _ hx] at h1
    exact (List.cons.inj h1).2
  · rwa [pj_no _ hx, pj_no _ hx] at h1
theorem Eqv.append {r s t u : Rw} (h : Eqv c r s) (g : Eqv c t u) : Eqv c (r ++ t) (s ++ u) := fun p q e => by
  rw [pj_append, pj_append, h p q e, g p q e]
theorem Eqv.reverse {r s : Rw} (h : Eqv c r s) : Eqv c r.reverse s.reverse := fun p q e => by
  rw [pj_reverse, pj_reverse, h p q e]
theorem Eqv.swap (C : Com c) {x y : Lt} (h : c x.1 y.1 = true) (r : Rw) : Eqv c (x :: y :: r) (y :: x :: r) := fun p q e => by
  have e' : c q p = false := by rw [C.sy]; exact e
  by_cases hx : x.1 = p ∨ x.1 = q
  · by_cases hy : y.1 = p ∨ y.1 = q
    · exfalso
      rcases hx with hx | hx <;> rcases hy with hy | hy <;> rw [hx, hy] at h
      · rw [C.ir] at h; cases h
      · rw [e] at h; cases h
      · rw [e'] at h; cases h
      · rw [C.ir] at h; cases h
    · rw [pj_yes _ hx, pj_no _ hy, pj_no _ hy, pj_yes _ hx]
  · rw [pj_no _ hx]
    by_cases hy : y.1 = p ∨ y.1 = q
    · rw [pj_yes _ hy, pj_yes _ hy, pj_no _ hx]
    · rw [pj_no _ hy, pj_no _ hy, pj_no _ hx]
theorem Eqv.nil_left {r : Rw} (C : Com c) (h : Eqv c [] r) : r = [] := by
  cases r with
  | nil => rfl
  | cons x r =>
    have h1 := h x.1 x.1 (C.ir _)
    rw [pj_yes _ (.inl rfl)] at h1
    cases h1
end

/-! ### the letter of a part that can be brought to the head -/
def take1 (c : Int → Int → Bool) : Rw → Int → Option (Int × Rw)
  | [], _ => none
  | x :: r, p => if x.1 = p then some (x.2, r) else if c x.1 p = true then (take1 c r p).map fun z => (z.1, x :: z.2) else none

section
variable {c : Int → Int → Bool}
theorem take1_eq {x : Lt} {r : Rw} {p : Int} (h : x.1 = p) : take1 c (x :: r) p = some (x.2, r) := by
  unfold take1
  rw [if_pos h]
theorem take1_go {x : Lt} {r : Rw} {p : Int} (h : x.1 ≠ p) (hc : c x.1 p = true) : take1 c (x :: r) p = (take1 c r p).map fun z => (z.1, x :: z.2) := by
  conv => lhs; unfold take1
  rw [if_neg h, if_pos hc]
theorem take1_no {x : Lt} {r : Rw} {p : Int} (h : x.1 ≠ p) (hc : c x.1 p = false) : take1 c (x :: r) p = none := by
  unfold take1
  rw [if_neg h, if_neg (by rw [hc]; exact Bool.false_ne_true)]
theorem Com.ne (C : Com c) {p q : Int} (h : c p q = true) : p ≠ q := fun e => by rw [e, C.ir] at h; cases h
theorem take1_app (C : Com c) {p b : Int} {B : Rw} : ∀ {A : Rw}, (∀ y ∈ A, c y.1 p = true) → take1 c (A ++ (p, b) :: B) p = some (b, A ++ B)
  | [], _ => take1_eq rfl
  | y :: A, h => by
    have hy := h y List.mem_cons_self
    rw [List.cons_append, take1_go (C.ne hy) hy, take1_app C fun z hz => h z (List.mem_cons_of_mem _ hz)]
    rfl
theorem take1_app_no (C : Com c) {p : Int} {x : Lt} {B : Rw} (hx : x.1 ≠ p) (hc : c x.1 p = false) : ∀ {A : Rw}, (∀ y ∈ A, c y.1 p = true) → take1 c (A ++ x :: B) p = none
  | [], _ => take1_no hx hc
  | y :: A, h => by
    have hy := h y List.mem_cons_self
    rw [List.cons_append, take1_go (C.ne hy) hy, take1_app_no C hx hc fun z hz => h z (List.mem_cons_of_mem _ hz)]
    rfl
theorem take1_all_no (C : Com c) {p : Int} : ∀ {A : Rw}, (∀ y ∈ A, c y.1 p = true) → take1 c A p = none
  | [], _ => rfl
  | y :: A, h => by
    have hy := h y List.mem_cons_self
    rw [take1_go (C.ne hy) hy, take1_all_no C fun z hz => h z (List.mem_cons_of_mem _ hz)]
    rfl
/-- it is found between two parts -/
theorem take1_split {p b : Int} : ∀ {R R' : Rw}, take1 c R p = some (b, R') → ∃ A B, R = A ++ (p, b) :: B ∧ R' = A ++ B ∧ ∀ y ∈ A, c y.1 p = true
  | [], R', h => nomatch h
  | x :: r, R', h => by
    by_cases hx : x.1 = p
    · rw [take1_eq hx] at h
      cases h
      exact ⟨[], r, by rw [← hx]; rfl, rfl, fun y hy => nomatch hy⟩
    · by_cases hc : c x.1 p = true
      · rw [take1_go hx hc] at h
        cases e : take1 c r p with
        | none => rw [e] at h; cases h
        | some z =>
          rw [e] at h
          obtain ⟨z1, z2⟩ := z
          have h2 : some (z1, x :: z2) = some (b, R') := h
          cases h2
          obtain ⟨A, B, e1, e2, e3⟩ := take1_split e
          refine ⟨x :: A, B, by rw [e1]; rfl, by rw [e2]; rfl, fun y hy => ?_⟩
          rcases List.mem_cons.mp hy with rfl | hy
          · exact hc
          · exact e3 y hy
      · rw [take1_no hx (by simpa using hc)] at h
        cases h
theorem take1_len {p b : Int} {R R' : Rw} (h : take1 c R p = some (b, R')) : R.length = R'.length + 1 := by
  obtain ⟨A, B, rfl, rfl, _⟩ := take1_split h
  simp
  omega
theorem Eqv.front (C : Com c) {p b : Int} {B : Rw} : ∀ {A : Rw}, (∀ y ∈ A, c y.1 p = true) → Eqv c (A ++ (p, b) :: B) ((p, b) :: (A ++ B))
  | [], _ => Eqv.refl _
  | y :: A, h => by
    have hy := h y List.mem_cons_self
    exact ((Eqv.front C fun z hz => h z (List.mem_cons_of_mem _ hz)).cons y).trans (Eqv.swap C hy _)
theorem takeB (C : Com c) {p b : Int} {R R' : Rw} (h : take1 c R p = some (b, R')) : Eqv c R ((p, b) :: R') := by
  obtain ⟨A, B, rfl, rfl, h1⟩ := take1_split h
  exact Eqv.front C h1
/-- it is there exactly if each projection begins with it -/
theorem takeA (C : Com c) {p : Int} : ∀ {R : Rw}, (∃ z, take1 c R p = some z) ↔ ∀ q, c p q = false → ∃ b t, pj p q R = (p, b) :: t
  | [] => ⟨fun ⟨z, h⟩ => (nomatch h), fun h => by
      obtain ⟨b, t, e⟩ := h p (C.ir p)
      cases e⟩
  | x :: r => by
    have ih := takeA C (p := p) (R := r)
    by_cases hx : x.1 = p
    · refine ⟨fun _ q _ => ⟨x.2, pj p q r, ?_⟩, fun _ => ⟨_, take1_eq hx⟩⟩
      rw [pj_yes _ (.inl hx), ← hx]
    · by_cases hc : c x.1 p = true
      · rw [take1_go hx hc]
        constructor
        · rintro ⟨z, hz⟩ q hq
          have hxq : x.1 ≠ q := fun e => by
            rw [e, C.sy, hq] at hc
            cases hc
          obtain ⟨b, t, e⟩ := ih.mp (by
            cases e : take1 c r p with
            | none => rw [e] at hz; cases hz
            | some w => exact ⟨w, rfl⟩) q hq
          exact ⟨b, t, by rw [pj_no _ (fun h => h.elim hx hxq), e]⟩
        · intro h
          obtain ⟨w, hw⟩ := ih.mpr fun q hq => by
            have hxq : x.1 ≠ q := fun e => by
              rw [e, C.sy, hq] at hc
              cases hc
            obtain ⟨b, t, e⟩ := h q hq
            rw [pj_no _ (fun h => h.elim hx hxq)] at e
            exact ⟨b, t, e⟩
          exact ⟨_, by rw [hw]; rfl⟩
      · have hc' : c x.1 p = false := by simpa using hc
        rw [take1_no hx hc']
        refine ⟨fun ⟨z, h⟩ => (nomatch h), fun h => ?_⟩
        obtain ⟨b, t, e⟩ := h x.1 (by rw [C.sy]; exact hc')
        rw [pj_yes _ (.inr rfl)] at e
        have e1 := (List.cons.inj e).1
        exact absurd (congrArg Prod.fst e1) hx
theorem takeC (C : Com c) {p b : Int} {R R' S : Rw} (E : Eqv c R S) (h : take1 c R p = some (b, R')) : ∃ S', take1 c S p = some (b, S') ∧ Eqv c R' S' := by
  obtain ⟨⟨b2, S'⟩, hz⟩ := (takeA C (R := S)).mpr fun q hq => by
    rw [← E p q hq]
    exact (takeA C (R := R)).mp ⟨_, h⟩ q hq
  have e1 := takeB C h
  have e2 := takeB C hz
  have e3 : Eqv c ((p, b) :: R') ((p, b2) :: S') := e1.symm.trans (E.trans e2)
  have e4 := e3 p p (C.ir p)
  rw [pj_yes (x := (p, b)) _ (.inl rfl), pj_yes (x := (p, b2)) _ (.inl rfl)] at e4
  have e5 := congrArg Prod.snd (List.cons.inj e4).1
  simp only at e5
  subst e5
  exact ⟨S', hz, e3.uncons⟩
theorem takeN (C : Com c) {p : Int} {R S : Rw} (E : Eqv c R S) (h : take1 c R p = none) : take1 c S p = none := by
  cases e : take1 c S p with
  | none => rfl
  | some z =>
    obtain ⟨b, S'⟩ := z
    obtain ⟨R', h1, _⟩ := takeC C E.symm e
    rw [h] at h1
    cases h1
theorem take1_cons_com (C : Com c) {p q : Int} (h : c p q = true) (a : Int) (R : Rw) : take1 c ((p, a) :: R) q = (take1 c R q).map fun z => (z.1, (p, a) :: z.2) := take1_go (C.ne h) h

theorem Eqv.length (C : Com c) : ∀ {r s : Rw}, Eqv c r s → r.length = s.length
  | [], s, h => by rw [h.nil_left C]
  | x :: r, s, h => by
    obtain ⟨s', h1, h2⟩ := takeC C h (take1_eq (p := x.1) rfl)
    rw [take1_len h1, ← Eqv.length C h2]
    rfl
/-- the same parts in the same order: the same -/
theorem Eqv.eq_of_parts (C : Com c) : ∀ {r s : Rw}, Eqv c r s → r.map Prod.fst = s.map Prod.fst → r = s
  | [], s, h, _ => (h.nil_left C).symm
  | x :: r, [], _, e => by cases e
  | x :: r, y :: s, h, e => by
    have e1 : x.1 = y.1 := (List.cons.inj e).1
    have e2 := (List.cons.inj e).2
    have h1 := h x.1 x.1 (C.ir _)
    rw [pj_yes _ (.inl rfl), pj_yes _ (.inl e1.symm)] at h1
    have hxy := (List.cons.inj h1).1
    subst hxy
    rw [Eqv.eq_of_parts C h.uncons e2]
end

/-! ### one pair put behind a shortest row (kept from its end) -/
def spl (c : Int → Int → Bool) (R : Rw) (p : Int) : Int × Rw := (take1 c R p).getD (0, R)
def cons0 (x : Lt) (R : Rw) : Rw := if x.2 = 0 then R else x :: R
def stp (c : Int → Int → Bool) (R : Rw) (x : Lt) : Rw := cons0 (x.1, (spl c R x.1).1 + x.2) (spl c R x.1).2
def Red (c : Int → Int → Bool) : Rw → Prop
  | [] => True
  | x :: r => take1 c r x.1 = none ∧ x.2 ≠ 0 ∧ Red c r

section
variable {c : Int → Int → Bool}
theorem spl_none {R : Rw} {p : Int} (h : take1 c R p = none) : spl c R p = (0, R) := by unfold spl; rw [h]; rfl
theorem spl_some {R : Rw} {p : Int} {z : Int × Rw} (h : take1 c R p = some z) : spl c R p = z := by unfold spl; rw [h]; rfl
theorem cons0_zero (p : Int) (R : Rw) : cons0 (p, 0) R = R := by unfold cons0; rw [if_pos rfl]
theorem cons0_ne {p a : Int} (h : a ≠ 0) (R : Rw) : cons0 (p, a) R = (p, a) :: R := by unfold cons0; rw [if_neg h]
theorem Eqv.cons0 {r s : Rw} (x : Lt) (h : Eqv c r s) : Eqv c (cons0 x r) (cons0 x s) := by
  unfold K26.cons0
  by_cases e : x.2 = 0
  · rw [if_pos e, if_pos e]; exact h
  · rw [if_neg e, if_neg e]; exact h.cons x
theorem spl_congr (C : Com c) {R S : Rw} (p : Int) (E : Eqv c R S) : (spl c R p).1 = (spl c S p).1 ∧ Eqv c (spl c R p).2 (spl c S p).2 := by
  cases e : take1 c R p with
  | none =>
    rw [spl_none e, spl_none (takeN C E e)]
    exact ⟨rfl, E⟩
  | some z =>
    obtain ⟨b, R'⟩ := z
    obtain ⟨S', h1, h2⟩ := takeC C E e
    rw [spl_some e, spl_some h1]
    exact ⟨rfl, h2⟩
theorem stp_congr (C : Com c) {R S : Rw} (x : Lt) (E : Eqv c R S) : Eqv c (stp c R x) (stp c S x) := by
  obtain ⟨h1, h2⟩ := spl_congr C x.1 E
  unfold stp
  rw [h1]
  exact h2.cons0 _
/-- what is left behind has no further pair of this part at hand -/
theorem red_take (C : Com c) {p b : Int} : ∀ {R R' : Rw}, Red c R → take1 c R p = some (b, R') → Red c R' ∧ take1 c R' p = none ∧ b ≠ 0
  | [], _, _, h => nomatch h
  | x :: r, R', ⟨h1, h2, h3⟩, h => by
    by_cases hx : x.1 = p
    · rw [take1_eq hx] at h
      cases h
      rw [← hx]
      exact ⟨h3, h1, h2⟩
    · by_cases hc : c x.1 p = true
      · rw [take1_go hx hc] at h
        cases e : take1 c r p with
        | none => rw [e] at h; cases h
        | some z =>
          rw [e] at h
          obtain ⟨z1, z2⟩ := z
          have h4 : some (z1, x :: z2) = some (b, R') := h
          cases h4
          obtain ⟨g1, g2, g3⟩ := red_take C h3 e
          refine ⟨⟨?_, h2, g1⟩, ?_, g3⟩
          · have h5 := takeN C (takeB C e) h1
            have hc' : c p x.1 = true := by rw [C.sy]; exact hc
            rw [take1_cons_com C hc'] at h5
            cases q : take1 c z2 x.1 with
            | none => rfl
            | some w => rw [q] at h5; cases h5
          · rw [take1_go hx hc, g2]
            rfl
      · rw [take1_no hx (by simpa using hc)] at h
        cases h
theorem red_spl (C : Com c) {R : Rw} (p : Int) (h : Red c R) : Red c (spl c R p).2 ∧ take1 c (spl c R p).2 p = none ∧ Eqv c R (cons0 (p, (spl c R p).1) (spl c R p).2) := by
  cases e : take1 c R p with
  | none =>
    rw [spl_none e]
    refine ⟨h, e, ?_⟩
    rw [cons0_zero]
    exact Eqv.refl _
  | some z =>
    obtain ⟨b, R'⟩ := z
    rw [spl_some e]
    obtain ⟨h1, h2, h3⟩ := red_take C h e
    refine ⟨h1, h2, ?_⟩
    rw [cons0_ne h3]
    exact takeB C e
theorem red_cons0 {p a : Int} {R : Rw} (h : Red c R) (hn : take1 c R p = none) : Red c (cons0 (p, a) R) := by
  by_cases e : a = 0
  · rw [e, cons0_zero]; exact h
  · rw [cons0_ne e]; exact ⟨hn, e, h⟩
theorem red_stp (C : Com c) {R : Rw} (x : Lt) (h : Red c R) : Red c (stp c R x) := by
  obtain ⟨h1, h2, _⟩ := red_spl C x.1 h
  exact red_cons0 h1 h2
theorem spl_cons0 {p a : Int} {R : Rw} (hn : take1 c R p = none) : spl c (cons0 (p, a) R) p = (a, R) := by
  by_cases e : a = 0
  · rw [e, cons0_zero, spl_none hn]
  · rw [cons0_ne e, spl_some (take1_eq rfl)]
/-- twice the same part: once the sum -/
theorem stp_join (C : Com c) {R : Rw} (h : Red c R) (p a b : Int) : stp c (stp c R (p, a)) (p, b) = stp c R (p, a + b) := by
  obtain ⟨h1, h2, _⟩ := red_spl C p h
  unfold stp
  simp only
  rw [spl_cons0 h2]
  simp only
  rw [Int.add_assoc]
theorem stp_zero (C : Com c) {R : Rw} (h : Red c R) (p : Int) : Eqv c (stp c R (p, 0)) R := by
  obtain ⟨h1, h2, h3⟩ := red_spl C p h
  unfold stp
  simp only
  rw [Int.add_zero]
  exact h3.symm
theorem spl_cons0_com (C : Com c) {p q a : Int} (h : c p q = true) (R : Rw) : spl c (cons0 (p, a) R) q = ((spl c R q).1, cons0 (p, a) (spl c R q).2) := by
  by_cases e : a = 0
  · rw [e, cons0_zero, cons0_zero]
  · rw [cons0_ne e, cons0_ne e]
    have h1 := take1_cons_com C h a R
    cases q' : take1 c R q with
    | none =>
      rw [q'] at h1
      rw [spl_none q', spl_none (show take1 c ((p, a) :: R) q = none from h1)]
    | some z =>
      rw [q'] at h1
      rw [spl_some q', spl_some (show take1 c ((p, a) :: R) q = some (z.1, (p, a) :: z.2) from h1)]
theorem cons0_swap (C : Com c) {p q : Int} (h : c p q = true) (a b : Int) (R : Rw) : Eqv c (cons0 (p, a) (cons0 (q, b) R)) (cons0 (q, b) (cons0 (p, a) R)) := by
  by_cases e : a = 0
  · rw [e, cons0_zero, cons0_zero]; exact Eqv.refl _
  · by_cases e2 : b = 0
    · rw [e2, cons0_zero, cons0_zero]; exact Eqv.refl _
    · rw [cons0_ne e, cons0_ne e2, cons0_ne e2, cons0_ne e]
      exact Eqv.swap C h _
/-- two parts that go together may change places -/
theorem stp_swap (C : Com c) {R : Rw} (h : Red c R) {p q : Int} (hc : c p q = true) (a b : Int) : Eqv c (stp c (stp c R (p, a)) (q, b)) (stp c (stp c R (q, b)) (p, a)) := by
  have hc' : c q p = true := by rw [C.sy]; exact hc
  obtain ⟨g1, g2, g3⟩ := red_spl C p h
  -- R is (p, c1) R1; of R1 is taken (d, R2)
  have L : stp c (stp c R (p, a)) (q, b) = cons0 (q, (spl c (spl c R p).2 q).1 + b) (cons0 (p, (spl c R p).1 + a) (spl c (spl c R p).2 q).2) := by
    unfold stp
    simp only
    rw [spl_cons0_com C hc]
  have m := spl_congr C q g3
  rw [spl_cons0_com C hc] at m
  obtain ⟨m1, m2⟩ := m
  simp only at m1 m2
  have n2 : take1 c (spl c (spl c R p).2 q).2 p = none := by
    cases e : take1 c (spl c R p).2 q with
    | none => rw [spl_none e]; exact g2
    | some z =>
      obtain ⟨d, R2⟩ := z
      rw [spl_some e]
      have h5 := takeN C (takeB C e) g2
      rw [take1_cons_com C hc'] at h5
      show take1 c R2 p = none
      cases w : take1 c R2 p with
      | none => rfl
      | some u => rw [w] at h5; cases h5
  have m3 := spl_congr C p m2
  rw [spl_cons0 n2] at m3
  obtain ⟨m4, m5⟩ := m3
  simp only at m4 m5
  have Rr : stp c (stp c R (q, b)) (p, a) = cons0 (p, (spl c (spl c R q).2 p).1 + a) (cons0 (q, (spl c R q).1 + b) (spl c (spl c R q).2 p).2) := by
    unfold stp
    simp only
    rw [spl_cons0_com C hc']
  rw [L, Rr, m1, m4]
  exact (cons0_swap C hc' _ _ _).trans ((m5.symm.cons0 _).cons0 _)
end
end K26
end
section
/-! Turns, what they lead to, the shortest row whose parts are least. -/
set_option autoImplicit false
set_option linter.all false
namespace K26
inductive Tn (c : Int → Int → Bool) : Rw → Rw → Prop
  | zero (A : Rw) (p : Int) (B : Rw) : Tn c (A ++ (p, 0) :: B) (A ++ B)
  | join (A : Rw) (p a b : Int) (B : Rw) : Tn c (A ++ (p, a) :: (p, b) :: B) (A ++ (p, a + b) :: B)
  | swap (A : Rw) (p a q b : Int) (B : Rw) (h : c p q = true) : Tn c (A ++ (p, a) :: (q, b) :: B) (A ++ (q, b) :: (p, a) :: B)
inductive Rch (c : Int → Int → Bool) : Rw → Rw → Prop
  | refl (r : Rw) : Rch c r r
  | tail {r s t : Rw} : Rch c r s → Tn c s t → Rch c r t

section
variable {c : Int → Int → Bool}
theorem Rch.one {r s : Rw} (h : Tn c r s) : Rch c r s := .tail (.refl r) h
theorem Rch.of_eq {r s : Rw} (h : r = s) : Rch c r s := h ▸ .refl r
theorem Rch.trans {r s t : Rw} (h : Rch c r s) (g : Rch c s t) : Rch c r t := by
  induction g with
  | refl => exact h
  | tail _ e ih => exact .tail ih e
theorem Tn.ctx {r s : Rw} (A B : Rw) (h : Tn c r s) : Tn c (A ++ (r ++ B)) (A ++ (s ++ B)) := by
  cases h with
  | zero A' p B' =>
    have := Tn.zero (c := c) (A ++ A') p (B' ++ B)
    simpa using this
  | join A' p a b B' =>
    have := Tn.join (c := c) (A ++ A') p a b (B' ++ B)
    simpa using this
  | swap A' p a q b B' h =>
    have := Tn.swap (c := c) (A ++ A') p a q b (B' ++ B) h
    simpa using this
theorem Rch.ctx {r s : Rw} (A B : Rw) (h : Rch c r s) : Rch c (A ++ (r ++ B)) (A ++ (s ++ B)) := by
  induction h with
  | refl => exact .refl _
  | tail _ e ih => exact .tail ih (e.ctx A B)
theorem Rch.left {r s : Rw} (A : Rw) (h : Rch c r s) : Rch c (A ++ r) (A ++ s) := by
  have := h.ctx A []
  simpa using this
theorem Rch.right {r s : Rw} (B : Rw) (h : Rch c r s) : Rch c (r ++ B) (s ++ B) := by
  have := h.ctx [] B
  simpa using this
theorem Tn.more {c' : Int → Int → Bool} (m : ∀ p q, c p q = true → c' p q = true) {r s : Rw} (h : Tn c r s) : Tn c' r s := by
  cases h with
  | zero A p B => exact .zero A p B
  | join A p a b B => exact .join A p a b B
  | swap A p a q b B h => exact .swap A p a q b B (m _ _ h)
theorem Rch.more {c' : Int → Int → Bool} (m : ∀ p q, c p q = true → c' p q = true) {r s : Rw} (h : Rch c r s) : Rch c' r s := by
  induction h with
  | refl => exact .refl _
  | tail _ e ih => exact .tail ih (e.more m)
theorem Tn.len {r s : Rw} (h : Tn c r s) : s.length ≤ r.length := by
  cases h <;> simp <;> omega
theorem Rch.len {r s : Rw} (h : Rch c r s) : s.length ≤ r.length := by
  induction h with
  | refl => exact Nat.le_refl _
  | tail _ e ih => exact Nat.le_trans e.len ih

/-! ### the row kept from its end: nothing but what turns leave -/
def sR (c : Int → Int → Bool) (r : Rw) : Rw := r.foldl (stp c) []
theorem fold_congr (C : Com c) : ∀ (r : Rw) {R S : Rw}, Eqv c R S → Eqv c (r.foldl (stp c) R) (r.foldl (stp c) S)
  | [], _, _, h => h
  | x :: r, _, _, h => fold_congr C r (stp_congr C x h)
theorem red_fold (C : Com c) : ∀ (r : Rw) {R : Rw}, Red c R → Red c (r.foldl (stp c) R)
  | [], _, h => h
  | x :: r, _, h => red_fold C r (red_stp C x h)
theorem fold_turn (C : Com c) {r s : Rw} (h : Tn c r s) {R : Rw} (hR : Red c R) : Eqv c (r.foldl (stp c) R) (s.foldl (stp c) R) := by
  cases h with
  | zero A p B =>
    rw [List.foldl_append, List.foldl_append]
    exact fold_congr C B (stp_zero C (red_fold C A hR) p)
  | join A p a b B =>
    rw [List.foldl_append, List.foldl_append]
    show Eqv c (B.foldl (stp c) (stp c (stp c (A.foldl (stp c) R) (p, a)) (p, b))) (B.foldl (stp c) (stp c (A.foldl (stp c) R) (p, a + b)))
    rw [stp_join C (red_fold C A hR)]
    exact Eqv.refl _
  | swap A p a q b B h =>
    rw [List.foldl_append, List.foldl_append]
    exact fold_congr C B (stp_swap C (red_fold C A hR) h a b)
theorem sR_inv (C : Com c) {r s : Rw} (h : Rch c r s) : Eqv c (sR c r) (sR c s) := by
  induction h with
  | refl => exact Eqv.refl _
  | tail _ e ih => exact ih.trans (fold_turn C e trivial)
theorem red_sR (C : Com c) (r : Rw) : Red c (sR c r) := red_fold C r trivial

/-! ### it is reached -/
theorem rch_front {p b : Int} {B : Rw} (C : Com c) : ∀ {A : Rw}, (∀ y ∈ A, c y.1 p = true) → Rch c (A ++ (p, b) :: B) ((p, b) :: (A ++ B))
  | [], _ => .refl _
  | y :: A, h => by
    have hy := h y List.mem_cons_self
    have ih := rch_front C (p := p) (b := b) (B := B) fun z hz => h z (List.mem_cons_of_mem _ hz)
    have h1 := ih.left [y]
    exact .tail h1 (.swap [] y.1 y.2 p b (A ++ B) hy)
theorem rch_back {p b : Int} {A : Rw} (C : Com c) : ∀ {B : Rw}, (∀ y ∈ B, c y.1 p = true) → Rch c (A ++ (p, b) :: B) (A ++ (B ++ [(p, b)]))
  | [], _ => .refl _
  | y :: B, h => by
    have hy := h y List.mem_cons_self
    have hy' : c p y.1 = true := by rw [C.sy]; exact hy
    have h1 : Rch c (A ++ (p, b) :: y :: B) ((A ++ [y]) ++ (p, b) :: B) := by
      have := Rch.one (.swap (c := c) A p b y.1 y.2 B hy')
      simpa using this
    have ih := rch_back C (p := p) (b := b) (A := A ++ [y]) fun z hz => h z (List.mem_cons_of_mem _ hz)
    have h2 := h1.trans ih
    simpa using h2
theorem rch_take (C : Com c) {p b : Int} {R R' : Rw} (h : take1 c R p = some (b, R')) : Rch c R ((p, b) :: R') := by
  obtain ⟨A, B, rfl, rfl, h1⟩ := take1_split h
  exact rch_front C h1
theorem rch_takeR (C : Com c) {p b : Int} {R R' : Rw} (h : take1 c R p = some (b, R')) : Rch c R.reverse (R'.reverse ++ [(p, b)]) := by
  obtain ⟨A, B, rfl, rfl, h1⟩ := take1_split h
  have := rch_back C (p := p) (b := b) (A := B.reverse) (B := A.reverse) fun y hy => h1 y (List.mem_reverse.mp hy)
  simpa using this
theorem rch_cons0 (p a : Int) (R : Rw) : Rch c (R.reverse ++ [(p, a)]) (cons0 (p, a) R).reverse := by
  by_cases e : a = 0
  · rw [e, cons0_zero]
    have := Rch.one (.zero (c := c) R.reverse p [])
    simpa using this
  · rw [cons0_ne e, List.reverse_cons]
    exact .refl _
theorem rch_stp (C : Com c) (R : Rw) (x : Lt) : Rch c (R.reverse ++ [x]) (stp c R x).reverse := by
  unfold stp
  refine Rch.trans ?_ (rch_cons0 _ _ _)
  cases e : take1 c R x.1 with
  | none =>
    rw [spl_none e]
    simp only [Int.zero_add]
    exact .refl _
  | some z =>
    obtain ⟨b, R'⟩ := z
    rw [spl_some e]
    simp only
    have h1 := (rch_takeR C e).right [x]
    refine h1.trans ?_
    have h2 := Rch.one (.join (c := c) R'.reverse x.1 b x.2 [])
    simpa using h2
theorem rch_fold (C : Com c) : ∀ (r R : Rw), Rch c (R.reverse ++ r) (r.foldl (stp c) R).reverse
  | [], R => by simp; exact .refl _
  | x :: r, R => by
    have h1 := (rch_stp C R x).right r
    have h2 := rch_fold C r (stp c R x)
    have h3 := h1.trans h2
    simpa using h3
theorem rch_sR (C : Com c) (r : Rw) : Rch c r (sR c r).reverse := by
  have := rch_fold C r []
  simpa [sR] using this

/-! ### the least order -/
def minI : List Int → Option Int
  | [] => none
  | x :: r => match minI r with
    | none => some x
    | some y => some (if x ≤ y then x else y)
theorem minI_some : ∀ {l : List Int}, l ≠ [] → ∃ m, minI l = some m
  | [], h => absurd rfl h
  | x :: r, _ => by
    unfold minI
    split
    · exact ⟨_, rfl⟩
    · exact ⟨_, rfl⟩
theorem minI_spec : ∀ {l : List Int} {m : Int}, minI l = some m → m ∈ l ∧ ∀ y ∈ l, m ≤ y
  | [], _, h => nomatch h
  | x :: r, m, h => by
    unfold minI at h
    split at h
    · rename_i e
      cases h
      have hr : r = [] := Classical.byContradiction fun hn => by
        obtain ⟨m, hm⟩ := minI_some hn
        rw [e] at hm
        cases hm
      subst hr
      simp
    · rename_i y e
      obtain ⟨h1, h2⟩ := minI_spec e
      have h3 := Option.some.inj h
      by_cases hxy : x ≤ y
      · rw [if_pos hxy] at h3
        subst h3
        exact ⟨List.mem_cons_self, fun z hz => (List.mem_cons.mp hz).elim (fun q => by omega) fun q => by have := h2 z q; omega⟩
      · rw [if_neg hxy] at h3
        subst h3
        exact ⟨List.mem_cons_of_mem _ h1, fun z hz => (List.mem_cons.mp hz).elim (fun q => by omega) fun q => h2 z q⟩
/-- the parts that can be brought to the head -/
def firsts (c : Int → Int → Bool) (P : Rw) : List Int := (P.map Prod.fst).filter fun p => (take1 c P p).isSome
def lo (c : Int → Int → Bool) : Nat → Rw → Rw
  | 0, _ => []
  | n + 1, P => match minI (firsts c P) with
    | none => []
    | some p => match take1 c P p with
      | none => []
      | some z => (p, z.1) :: lo c n z.2
def lOrd (c : Int → Int → Bool) (P : Rw) : Rw := lo c P.length P
theorem take1_mem {p : Int} {P : Rw} {z : Int × Rw} (h : take1 c P p = some z) : p ∈ P.map Prod.fst := by
  obtain ⟨b, R⟩ := z
  obtain ⟨A, B, rfl, _, _⟩ := take1_split h
  simp
theorem mem_firsts {p : Int} {P : Rw} : p ∈ firsts c P ↔ ∃ z, take1 c P p = some z := by
  unfold firsts
  rw [List.mem_filter]
  constructor
  · rintro ⟨_, h⟩
    exact Option.isSome_iff_exists.mp h
  · rintro ⟨z, h⟩
    exact ⟨take1_mem h, by rw [h]; rfl⟩
theorem firsts_ne (x : Lt) (P : Rw) : firsts c (x :: P) ≠ [] := fun h => by
  have : x.1 ∈ firsts c (x :: P) := mem_firsts.mpr ⟨_, take1_eq rfl⟩
  rw [h] at this
  cases this
theorem lOrd_nil : lOrd c [] = [] := rfl
/-- one turn of it -/
theorem lOrd_step {P : Rw} {p b : Int} {P' : Rw} (h1 : take1 c P p = some (b, P')) (h2 : ∀ q z, take1 c P q = some z → p ≤ q) : lOrd c P = (p, b) :: lOrd c P' := by
  have hl := take1_len h1
  unfold lOrd
  rw [hl]
  have hp : p ∈ firsts c P := mem_firsts.mpr ⟨_, h1⟩
  obtain ⟨m, hm⟩ := minI_some (l := firsts c P) (fun e => by rw [e] at hp; cases hp)
  obtain ⟨g1, g2⟩ := minI_spec hm
  obtain ⟨z, hz⟩ := mem_firsts.mp g1
  have e1 := h2 m z hz
  have e2 := g2 p hp
  have e : m = p := by omega
  subst e
  show (match minI (firsts c P) with
    | none => []
    | some p => match take1 c P p with
      | none => []
      | some z => (p, z.1) :: lo c P'.length z.2) = _
  rw [hm]
  simp only
  rw [h1]
theorem lOrd_cons (x : Lt) (P : Rw) : ∃ p b P', take1 c (x :: P) p = some (b, P') ∧ (∀ q z, take1 c (x :: P) q = some z → p ≤ q) ∧ lOrd c (x :: P) = (p, b) :: lOrd c P' := by
  obtain ⟨m, hm⟩ := minI_some (firsts_ne (c := c) x P)
  obtain ⟨g1, g2⟩ := minI_spec hm
  obtain ⟨⟨b, P'⟩, hz⟩ := mem_firsts.mp g1
  have h2 : ∀ q z, take1 c (x :: P) q = some z → m ≤ q := fun q z hq => g2 q (mem_firsts.mpr ⟨z, hq⟩)
  exact ⟨m, b, P', hz, h2, lOrd_step hz h2⟩
theorem lOrd_rch (C : Com c) : ∀ (n : Nat) (P : Rw), P.length = n → Rch c P (lOrd c P)
  | 0, P, h => by
    have : P = [] := List.length_eq_zero_iff.mp h
    subst this
    exact .refl _
  | n + 1, [], h => by cases h
  | n + 1, x :: P, h => by
    obtain ⟨p, b, P', h1, _, h3⟩ := lOrd_cons (c := c) x P
    have hl := take1_len h1
    rw [h3]
    exact (rch_take C h1).trans ((lOrd_rch C n P' (by omega)).left [(p, b)])
theorem lOrd_eqv (C : Com c) : ∀ (n : Nat) (P : Rw), P.length = n → Eqv c P (lOrd c P)
  | 0, P, h => by
    have : P = [] := List.length_eq_zero_iff.mp h
    subst this
    exact Eqv.refl _
  | n + 1, [], h => by cases h
  | n + 1, x :: P, h => by
    obtain ⟨p, b, P', h1, _, h3⟩ := lOrd_cons (c := c) x P
    have hl := take1_len h1
    rw [h3]
    exact (takeB C h1).trans ((lOrd_eqv C n P' (by omega)).cons _)
theorem lOrd_min (C : Com c) : ∀ (n : Nat) (P Q : Rw), P.length = n → Eqv c P Q → ¬ Q.map Prod.fst < (lOrd c P).map Prod.fst
  | 0, P, Q, h, _ => by
    have : P = [] := List.length_eq_zero_iff.mp h
    subst this
    rw [lOrd_nil]
    simp
  | n + 1, [], _, h, _ => by cases h
  | n + 1, x :: P, [], h, e => by
    have := e.length C
    cases this
  | n + 1, x :: P, y :: Q, h, e => by
    obtain ⟨p, b, P', h1, h2, h3⟩ := lOrd_cons (c := c) x P
    have hl := take1_len h1
    rw [h3, List.map_cons, List.map_cons, List.cons_lt_cons_iff]
    obtain ⟨S, g1, g2⟩ := takeC C e.symm (take1_eq (p := y.1) rfl)
    have hp := h2 y.1 _ g1
    rintro (q | ⟨q1, q2⟩)
    · simp only at q
      omega
    · simp only at q1 q2
      rw [← q1] at h1
      rw [h1] at g1
      have g1' := Option.some.inj g1
      have e2 : P' = S := congrArg Prod.snd g1'
      subst e2
      exact lOrd_min C n P' Q (by omega) g2.symm q2
theorem parts_eq {a b : List Int} (h1 : ¬ a < b) (h2 : ¬ b < a) : a = b := List.le_antisymm (List.not_lt.mp h2) (List.not_lt.mp h1)
theorem lOrd_congr (C : Com c) {P Q : Rw} (h : Eqv c P Q) : lOrd c P = lOrd c Q := by
  have e1 := lOrd_eqv C _ P rfl
  have e2 := lOrd_eqv C _ Q rfl
  have hE : Eqv c (lOrd c P) (lOrd c Q) := e1.symm.trans (h.trans e2)
  refine hE.eq_of_parts C (parts_eq ?_ ?_)
  · exact lOrd_min C _ Q _ rfl (h.symm.trans e1)
  · exact lOrd_min C _ P _ rfl (h.trans e2)

/-! ### rows that are the same up to exchanging come from one another by turns -/
theorem Rch.swapsym (C : Com c) {r s : Rw} (h : Eqv c r s) : Rch c r s := by
  have e := lOrd_congr C h
  suffices H : ∀ (n : Nat) (P Q : Rw), P.length = n → Eqv c P Q → Rch c Q P from H _ s r rfl h.symm
  intro n
  induction n with
  | zero =>
    intro P Q hl hE
    have : P = [] := List.length_eq_zero_iff.mp hl
    subst this
    rw [hE.nil_left C]
    exact .refl _
  | succ n ih =>
    intro P Q hl hE
    cases P with
    | nil => cases hl
    | cons x P =>
      obtain ⟨S, g1, g2⟩ := takeC C hE (take1_eq (p := x.1) rfl)
      exact (rch_take C g1).trans ((ih P S (by simpa using hl) g2).left [x])

/-! ### the normal row -/
def nf (c : Int → Int → Bool) (r : Rw) : Rw := lOrd c (sR c r).reverse
theorem nf_inv (C : Com c) {r s : Rw} (h : Rch c r s) : nf c r = nf c s := lOrd_congr C (sR_inv C h).reverse
theorem nf_rch (C : Com c) (r : Rw) : Rch c r (nf c r) := (rch_sR C r).trans (lOrd_rch C _ _ rfl)
theorem lOrd_len (C : Com c) (P : Rw) : (lOrd c P).length = P.length := ((lOrd_eqv C _ P rfl).length C).symm
theorem spl_len (R : Rw) (p : Int) : (spl c R p).2.length ≤ R.length := by
  cases e : take1 c R p with
  | none => rw [spl_none e]; exact Nat.le_refl _
  | some z =>
    obtain ⟨b, R'⟩ := z
    rw [spl_some e]
    have := take1_len e
    show R'.length ≤ _
    omega
theorem stp_len (R : Rw) (x : Lt) : (stp c R x).length ≤ R.length + 1 ∧ ((stp c R x).length = R.length + 1 → stp c R x = x :: R) := by
  unfold stp
  cases e : take1 c R x.1 with
  | none =>
    rw [spl_none e]
    simp only [Int.zero_add]
    by_cases e2 : x.2 = 0
    · have : cons0 (x.1, x.2) R = R := by unfold cons0; rw [if_pos e2]
      rw [this]
      exact ⟨by omega, fun h => by omega⟩
    · rw [cons0_ne e2]
      exact ⟨by simp, fun _ => rfl⟩
  | some z =>
    obtain ⟨b, R'⟩ := z
    rw [spl_some e]
    have hl := take1_len e
    have h2 : (cons0 (x.1, b + x.2) R').length ≤ R.length := by
      unfold cons0
      split
      · omega
      · simp; omega
    exact ⟨by simp only; omega, fun h => by simp only at h; omega⟩
theorem fold_len : ∀ (r R : Rw), (r.foldl (stp c) R).length ≤ R.length + r.length ∧ ((r.foldl (stp c) R).length = R.length + r.length → r.foldl (stp c) R = r.reverse ++ R)
  | [], R => ⟨by simp, fun _ => by simp⟩
  | x :: r, R => by
    obtain ⟨h1, h2⟩ := stp_len (c := c) R x
    obtain ⟨g1, g2⟩ := fold_len r (stp c R x)
    refine ⟨by rw [List.foldl_cons, List.length_cons]; omega, fun h => ?_⟩
    rw [List.foldl_cons, List.length_cons] at h
    have e1 : (stp c R x).length = R.length + 1 := by omega
    have e2 := h2 e1
    rw [List.foldl_cons, g2 (by omega), e2]
    simp
theorem sR_len (r : Rw) : (sR c r).length ≤ r.length := by
  have := (fold_len (c := c) r []).1
  simpa [sR] using this
theorem sR_full {r : Rw} (h : (sR c r).length = r.length) : sR c r = r.reverse := by
  have := (fold_len (c := c) r []).2 (by simpa [sR] using h)
  simpa [sR] using this
theorem nf_len (C : Com c) (r : Rw) : (nf c r).length = (sR c r).length := by
  unfold nf
  rw [lOrd_len C, List.length_reverse]
theorem nf_least_len (C : Com c) {r s : Rw} (h : Rch c r s) : (nf c r).length ≤ s.length := by
  rw [nf_inv C h, nf_len C]
  exact sR_len s
/-- a shortest one differs by exchanging alone -/
theorem nf_short (C : Com c) {r s : Rw} (h : Rch c r s) (hl : s.length = (nf c r).length) : Eqv c s (nf c r) := by
  rw [nf_inv C h, nf_len C] at hl
  have e := sR_full hl.symm
  rw [nf_inv C h]
  unfold nf
  rw [e, List.reverse_reverse]
  exact lOrd_eqv C _ s rfl
theorem nf_least (C : Com c) {r s : Rw} (h : Rch c r s) (hl : s.length = (nf c r).length) : ¬ s.map Prod.fst < (nf c r).map Prod.fst := by
  have e := nf_short C h hl
  rw [nf_inv C h, nf_len C] at hl
  have e2 := sR_full hl.symm
  rw [nf_inv C h]
  unfold nf
  rw [e2, List.reverse_reverse]
  exact lOrd_min C _ s s rfl (Eqv.refl s)
theorem nf_only (C : Com c) {r s : Rw} (h : Rch c r s) (hl : s.length = (nf c r).length) (e : s.map Prod.fst = (nf c r).map Prod.fst) : s = nf c r :=
  (nf_short C h hl).eq_of_parts C e
theorem short_rch (C : Com c) {r s : Rw} : (Rch c r s ∧ s.length = (nf c r).length) ↔ Rch c (nf c r) s := by
  constructor
  · rintro ⟨h, hl⟩
    exact Rch.swapsym C (nf_short C h hl).symm
  · intro h
    have h1 := (nf_rch C r).trans h
    have h2 := nf_least_len C h1
    have h3 := h.len
    exact ⟨h1, by omega⟩

/-! ### undone -/
def inv (r : Rw) : Rw := (r.reverse).map fun x => (x.1, -x.2)
theorem inv_cons (x : Lt) (r : Rw) : inv (x :: r) = inv r ++ [(x.1, -x.2)] := by
  unfold inv
  simp
theorem fold_inv (C : Com c) : ∀ (r : Rw) {R : Rw}, Red c R → Eqv c ((r ++ inv r).foldl (stp c) R) R
  | [], R, _ => Eqv.refl _
  | x :: r, R, h => by
    have ih := fold_inv C r (red_stp C x h)
    rw [inv_cons, List.cons_append, List.foldl_cons, ← List.append_assoc, List.foldl_append]
    show Eqv c (stp c ((r ++ inv r).foldl (stp c) (stp c R x)) (x.1, -x.2)) R
    refine (stp_congr C _ ih).trans ?_
    have e := stp_join C h x.1 x.2 (-x.2)
    have e0 : x.2 + -x.2 = 0 := by omega
    rw [e0] at e
    show Eqv c (stp c (stp c R (x.1, x.2)) (x.1, -x.2)) R
    rw [e]
    exact stp_zero C h _
theorem nf_undone (C : Com c) {r t : Rw} (h : Rch c r t) : nf c (r ++ inv t) = [] := by
  have h1 : Rch c (r ++ inv t) (t ++ inv t) := h.right _
  rw [nf_inv C h1]
  have h2 : Eqv c (sR c (t ++ inv t)) [] := fold_inv C t trivial
  have h3 : sR c (t ++ inv t) = [] := h2.symm.nil_left C
  unfold nf
  rw [h3]
  rfl
theorem nf_nil : nf c [] = [] := rfl
/-- more parts go together: what was the same is the same -/
theorem nf_more {c' : Int → Int → Bool} (C : Com c) (C' : Com c') (m : ∀ p q, c p q = true → c' p q = true) {r s : Rw} (h : nf c r = nf c s) : nf c' r = nf c' s := by
  rw [nf_inv C' ((nf_rch C r).more m), h, ← nf_inv C' ((nf_rch C s).more m)]
theorem nf_of_sR {c' : Int → Int → Bool} (C : Com c) (C' : Com c') (m : ∀ p q, c p q = true → c' p q = true) {r s : Rw} (h : (sR c r).reverse = (sR c s).reverse) : nf c' r = nf c' s := by
  rw [nf_inv C' ((rch_sR C r).more m), h, ← nf_inv C' ((rch_sR C s).more m)]
end
end K26
end
section
/-! All rows to which one turn leads, as a list; how many rows turns lead to at most; the walk through all of them. -/
set_option autoImplicit false
set_option linter.all false
namespace K26
/-! ### one turn, as lists -/
def zeroAt (r : Rw) (k : Nat) : List Rw := match r[k]? with
  | some x => if x.2 = 0 then [r.take k ++ r.drop (k + 1)] else []
  | none => []
def pairAt (c : Int → Int → Bool) (r : Rw) (k : Nat) : List Rw := match r[k]?, r[k + 1]? with
  | some x, some y => if x.1 = y.1 then [r.take k ++ (x.1, x.2 + y.2) :: r.drop (k + 2)] else if c x.1 y.1 = true then [r.take k ++ y :: x :: r.drop (k + 2)] else []
  | _, _ => []
def turnsAt (c : Int → Int → Bool) (r : Rw) (k : Nat) : List Rw := zeroAt r k ++ pairAt c r k
def turnsTo (c : Int → Int → Bool) (r : Rw) (n : Nat) : List Rw := (List.range n).flatMap (turnsAt c r)
def turns (c : Int → Int → Bool) (r : Rw) : List Rw := turnsTo c r r.length
theorem turnsTo_succ (c : Int → Int → Bool) (r : Rw) (n : Nat) : turnsTo c r (n + 1) = turnsTo c r n ++ (zeroAt r n ++ pairAt c r n) := by
  unfold turnsTo
  rw [List.range_succ, List.flatMap_append]
  simp [turnsAt]
theorem split_at {α : Type} {r : List α} {k : Nat} {x : α} (h : r[k]? = some x) : r = r.take k ++ x :: r.drop (k + 1) := by
  obtain ⟨h1, h2⟩ := List.getElem?_eq_some_iff.mp h
  conv => lhs; rw [← List.take_append_drop k r]
  rw [List.drop_eq_getElem_cons h1, h2]
theorem split_at2 {α : Type} {r : List α} {k : Nat} {x y : α} (h : r[k]? = some x) (g : r[k + 1]? = some y) : r = r.take k ++ x :: y :: r.drop (k + 2) := by
  obtain ⟨h1, h2⟩ := List.getElem?_eq_some_iff.mp g
  have e := split_at h
  rw [List.drop_eq_getElem_cons h1, h2] at e
  exact e
section
variable {c : Int → Int → Bool}
theorem turnsAt_tn {r s : Rw} {k : Nat} (h : s ∈ turnsAt c r k) : Tn c r s := by
  rcases List.mem_append.mp h with h | h
  · unfold zeroAt at h
    split at h
    · rename_i x e
      split at h
      · rename_i e0
        rw [List.mem_singleton.mp h]
        have e1 := split_at e
        have e2 : x = (x.1, 0) := by rw [← e0]
        rw [e2] at e1
        conv => lhs; rw [e1]
        exact .zero _ _ _
      · cases h
    · cases h
  · unfold pairAt at h
    split at h
    · rename_i x y e e'
      have e1 := split_at2 e e'
      split at h
      · rename_i ep
        rw [List.mem_singleton.mp h]
        have ey : y = (x.1, y.2) := by rw [ep]
        rw [ey] at e1
        conv => lhs; rw [e1]
        exact .join _ _ _ _ _
      · split at h
        · rename_i hc
          rw [List.mem_singleton.mp h]
          conv => lhs; rw [e1]
          exact .swap _ _ _ _ _ _ hc
        · cases h
    · cases h
theorem tn_turns (C : Com c) {r s : Rw} (h : Tn c r s) : s ∈ turns c r := by
  unfold turns turnsTo
  rw [List.mem_flatMap]
  cases h with
  | zero A p B =>
    refine ⟨A.length, List.mem_range.mpr (by simp), List.mem_append.mpr (.inl ?_)⟩
    unfold zeroAt
    have e : (A ++ (p, 0) :: B)[A.length]? = some (p, 0) := by simp
    rw [e]
    simp
  | join A p a b B =>
    refine ⟨A.length, List.mem_range.mpr (by simp), List.mem_append.mpr (.inr ?_)⟩
    unfold pairAt
    have e : (A ++ (p, a) :: (p, b) :: B)[A.length]? = some (p, a) := by simp
    have e' : (A ++ (p, a) :: (p, b) :: B)[A.length + 1]? = some (p, b) := by simp
    rw [e, e']
    simp
  | swap A p a q b B h =>
    refine ⟨A.length, List.mem_range.mpr (by simp), List.mem_append.mpr (.inr ?_)⟩
    unfold pairAt
    have e : (A ++ (p, a) :: (q, b) :: B)[A.length]? = some (p, a) := by simp
    have e' : (A ++ (p, a) :: (q, b) :: B)[A.length + 1]? = some (q, b) := by simp
    rw [e, e']
    have hne := C.ne h
    simp [hne, h]
theorem mem_turns (C : Com c) {r s : Rw} : s ∈ turns c r ↔ Tn c r s := by
  refine ⟨fun h => ?_, tn_turns C⟩
  unfold turns turnsTo at h
  obtain ⟨k, _, hk⟩ := List.mem_flatMap.mp h
  exact turnsAt_tn hk
theorem turns_len (r : Rw) : ∀ n, (turnsTo c r n).length ≤ 2 * n
  | 0 => by simp [turnsTo]
  | n + 1 => by
    have ih := turns_len r n
    have h1 : (zeroAt r n).length ≤ 1 := by
      unfold zeroAt
      split
      · split <;> simp
      · simp
    have h2 : (pairAt c r n).length ≤ 1 := by
      unfold pairAt
      split
      · split
        · simp
        · split <;> simp
      · simp
    rw [turnsTo_succ, List.length_append, List.length_append]
    omega
end

/-! ### at most so many rows are reached -/
def seqs (r : Rw) : Nat → List Rw
  | 0 => [[]]
  | n + 1 => r.flatMap fun x => (seqs r n).map fun s => x :: s
def shr (r : Rw) : List Rw := ((List.range r.length).map fun k => r.take k ++ r.drop (k + 1)) ++
  (List.range (r.length - 1)).map fun k => r.take k ++ ((r.getD k (0, 0)).1, (r.getD k (0, 0)).2 + (r.getD (k + 1) (0, 0)).2) :: r.drop (k + 2)
def cl : Nat → Rw → List Rw
  | 0, _ => [[]]
  | n + 1, r => seqs r (n + 1) ++ (seqs r (n + 1)).flatMap fun s => (shr s).flatMap (cl n)
theorem mem_seqs {r : Rw} : ∀ {n : Nat} {s : Rw}, s ∈ seqs r n ↔ s.length = n ∧ ∀ x ∈ s, x ∈ r
  | 0, s => by
    unfold seqs
    rw [List.mem_singleton]
    constructor
    · rintro rfl
      exact ⟨rfl, fun x hx => nomatch hx⟩
    · rintro ⟨h, _⟩
      exact List.length_eq_zero_iff.mp h
  | n + 1, s => by
    unfold seqs
    rw [List.mem_flatMap]
    constructor
    · rintro ⟨x, hx, h⟩
      obtain ⟨t, ht, rfl⟩ := List.mem_map.mp h
      obtain ⟨h1, h2⟩ := mem_seqs.mp ht
      refine ⟨by rw [List.length_cons, h1], fun y hy => ?_⟩
      rcases List.mem_cons.mp hy with rfl | hy
      · exact hx
      · exact h2 y hy
    · rintro ⟨h1, h2⟩
      cases s with
      | nil => cases h1
      | cons x t =>
        exact ⟨x, h2 x List.mem_cons_self, List.mem_map.mpr ⟨t, mem_seqs.mpr ⟨by simpa using h1, fun y hy => h2 y (List.mem_cons_of_mem _ hy)⟩, rfl⟩⟩
theorem flat_len {α β : Type} {m : Nat} {f : α → List β} : ∀ {l : List α}, (∀ x ∈ l, (f x).length ≤ m) → (l.flatMap f).length ≤ l.length * m
  | [], _ => by simp
  | x :: l, h => by
    have h1 := h x List.mem_cons_self
    have h2 := flat_len (f := f) (l := l) fun y hy => h y (List.mem_cons_of_mem _ hy)
    rw [List.flatMap_cons, List.length_append, List.length_cons, Nat.succ_mul]
    omega
theorem seqs_len (r : Rw) : ∀ n, (seqs r n).length ≤ r.length ^ n
  | 0 => by simp [seqs]
  | n + 1 => by
    have ih := seqs_len r n
    unfold seqs
    rw [Nat.pow_succ, Nat.mul_comm]
    exact flat_len fun x _ => by rw [List.length_map]; exact ih
theorem shr_len (r : Rw) : (shr r).length = r.length + (r.length - 1) := by
  unfold shr
  simp
theorem shr_mem {r s : Rw} (h : s ∈ shr r) : s.length = r.length - 1 := by
  unfold shr at h
  rcases List.mem_append.mp h with h | h
  · obtain ⟨k, hk, rfl⟩ := List.mem_map.mp h
    have := List.mem_range.mp hk
    simp
    omega
  · obtain ⟨k, hk, rfl⟩ := List.mem_map.mp h
    have := List.mem_range.mp hk
    simp
    omega
def bnd : Nat → Nat
  | 0 => 1
  | n + 1 => (n + 1) ^ (n + 1) + (n + 1) ^ (n + 1) * ((2 * n + 1) * bnd n)
theorem cl_len : ∀ {n : Nat} {r : Rw}, r.length = n → (cl n r).length ≤ bnd n
  | 0, r, _ => by simp [cl, bnd]
  | n + 1, r, h => by
    unfold cl bnd
    have h1 := seqs_len r (n + 1)
    rw [h] at h1
    rw [List.length_append]
    have h2 : ((seqs r (n + 1)).flatMap fun s => (shr s).flatMap (cl n)).length ≤ (seqs r (n + 1)).length * ((2 * n + 1) * bnd n) := by
      refine flat_len fun s hs => ?_
      obtain ⟨h3, _⟩ := mem_seqs.mp hs
      have h4 : ((shr s).flatMap (cl n)).length ≤ (shr s).length * bnd n := flat_len fun t ht => cl_len (by rw [shr_mem ht, h3]; rfl)
      rw [shr_len, h3] at h4
      have e : n + 1 + (n + 1 - 1) = 2 * n + 1 := by omega
      rw [e] at h4
      exact h4
    have h3 := Nat.mul_le_mul_right ((2 * n + 1) * bnd n) h1
    omega
section
variable {c : Int → Int → Bool}
theorem cl_self {n : Nat} {r : Rw} (h : r.length = n) : r ∈ cl n r := by
  cases n with
  | zero =>
    have : r = [] := List.length_eq_zero_iff.mp h
    subst this
    simp [cl]
  | succ n =>
    unfold cl
    exact List.mem_append.mpr (.inl (mem_seqs.mpr ⟨h, fun _ hx => hx⟩))
theorem cl_turn : ∀ {n : Nat} {r s t : Rw}, s ∈ cl n r → Tn c s t → t ∈ cl n r
  | 0, r, s, t, h, e => by
    unfold cl at h
    have : s = [] := List.mem_singleton.mp h
    subst this
    have hl := e.len
    have : t = [] := List.length_eq_zero_iff.mp (by simpa using hl)
    subst this
    unfold cl
    simp
  | n + 1, r, s, t, h, e => by
    unfold cl at h ⊢
    rcases List.mem_append.mp h with h | h
    · obtain ⟨h1, h2⟩ := mem_seqs.mp h
      have low : t ∈ shr s → t ∈ seqs r (n + 1) ++ (seqs r (n + 1)).flatMap fun s => (shr s).flatMap (cl n) := fun ht =>
        List.mem_append.mpr (.inr (List.mem_flatMap.mpr ⟨s, h, List.mem_flatMap.mpr ⟨t, ht, cl_self (by rw [shr_mem ht, h1]; rfl)⟩⟩))
      cases e with
      | zero A p B =>
        refine low (List.mem_append.mpr (.inl (List.mem_map.mpr ⟨A.length, List.mem_range.mpr (by simp), ?_⟩)))
        simp
      | join A p a b B =>
        refine low (List.mem_append.mpr (.inr (List.mem_map.mpr ⟨A.length, List.mem_range.mpr (by simp), ?_⟩)))
        simp [List.getD]
      | swap A p a q b B hc =>
        refine List.mem_append.mpr (.inl (mem_seqs.mpr ⟨by simpa using h1, fun x hx => h2 x ?_⟩))
        simp only [List.mem_append, List.mem_cons] at hx ⊢
        rcases hx with hx | hx | hx | hx
        · exact .inl hx
        · exact .inr (.inr (.inl hx))
        · exact .inr (.inl hx)
        · exact .inr (.inr (.inr hx))
    · obtain ⟨u, hu, h⟩ := List.mem_flatMap.mp h
      obtain ⟨v, hv, h⟩ := List.mem_flatMap.mp h
      exact List.mem_append.mpr (.inr (List.mem_flatMap.mpr ⟨u, hu, List.mem_flatMap.mpr ⟨v, hv, cl_turn h e⟩⟩))
theorem cl_rch {r s : Rw} (h : Rch c r s) : s ∈ cl r.length r := by
  induction h with
  | refl => exact cl_self rfl
  | tail _ e ih => exact cl_turn ih e
end
theorem nodup_le {α : Type} [DecidableEq α] : ∀ {l m : List α}, l.Nodup → (∀ x ∈ l, x ∈ m) → l.length ≤ m.length
  | [], _, _, _ => Nat.zero_le _
  | x :: l, m, hn, h => by
    obtain ⟨h1, h2⟩ := List.nodup_cons.mp hn
    have hx := h x List.mem_cons_self
    have ih := nodup_le (l := l) (m := m.erase x) h2 fun y hy => (List.mem_erase_of_ne (a := y) (b := x) (fun e => h1 (by rw [← e]; exact hy))).mpr (h y (List.mem_cons_of_mem _ hy))
    rw [List.length_erase_of_mem hx] at ih
    have : 0 < m.length := List.length_pos_of_mem hx
    rw [List.length_cons]
    omega
def most : Nat := 6822400
theorem bnd_le {n : Nat} (h : n ≤ 4) : bnd n ≤ most := by
  match n, h with
  | 0, _ => decide
  | 1, _ => decide
  | 2, _ => decide
  | 3, _ => decide
  | 4, _ => decide
theorem rch_most {c : Int → Int → Bool} {r : Rw} {l : List Rw} (hr : r.length ≤ 4) (hn : l.Nodup) (h : ∀ s ∈ l, Rch c r s) : l.length ≤ most :=
  Nat.le_trans (nodup_le hn fun s hs => cl_rch (h s hs)) (Nat.le_trans (cl_len rfl) (bnd_le hr))

/-! ### the walk through all -/
/-- between two rounds -/
structure Bf (c : Int → Int → Bool) (r : Rw) (found last : List Rw) : Prop where
  nd : found.Nodup
  rc : ∀ x ∈ found, Rch c r x
  st : r ∈ found
  sub : ∀ x ∈ last, x ∈ found
  cls : ∀ x ∈ found, x ∉ last → ∀ y ∈ turns c x, y ∈ found
/-- within a round: i of last are done, of the next one j turns -/
structure Bi (c : Int → Int → Bool) (r : Rw) (found last next : List Rw) (i : Nat) : Prop where
  nd : (found ++ next).Nodup
  rc : ∀ x ∈ next, Rch c r x
  dn : ∀ x ∈ last.take i, ∀ y ∈ turns c x, y ∈ found ++ next
structure Bj (c : Int → Int → Bool) (r : Rw) (found last next : List Rw) (i : Nat) (x : Rw) (j : Nat) : Prop where
  b : Bi c r found last next i
  dn : ∀ y ∈ (turns c x).take j, y ∈ found ++ next
section
variable {c : Int → Int → Bool} {r : Rw} {found last next : List Rw}
theorem Bf.start (r : Rw) : Bf c r [r] [r] := ⟨by simp, fun x hx => by rw [List.mem_singleton.mp hx]; exact .refl _, by simp, fun x hx => hx, fun x hx h => absurd hx h⟩
theorem Bf.bi (B : Bf c r found last) : Bi c r found last [] 0 where
  nd := by rw [List.append_nil]; exact B.nd
  rc := fun x hx => by cases hx
  dn := fun x hx => by simp at hx
theorem Bi.bj {i : Nat} (B : Bi c r found last next i) (x : Rw) : Bj c r found last next i x 0 := ⟨B, fun y hy => by simp at hy⟩
theorem take_succ_mem {α : Type} {l : List α} {j : Nat} {y z : α} (h : l[j]? = some y) (hz : z ∈ l.take (j + 1)) : z ∈ l.take j ∨ z = y := by
  rw [List.take_add_one, h] at hz
  rcases List.mem_append.mp hz with hz | hz
  · exact .inl hz
  · exact .inr (by simpa using hz)
theorem Bj.seen {i j : Nat} {x y : Rw} (B : Bj c r found last next i x j) (hy : (turns c x)[j]? = some y) (h : y ∈ found ++ next) : Bj c r found last next i x (j + 1) :=
  ⟨B.b, fun z hz => (take_succ_mem hy hz).elim (B.dn z) fun e => e ▸ h⟩
theorem Bj.new (C : Com c) {i j : Nat} {x y : Rw} (F : Bf c r found last) (B : Bj c r found last next i x j) (hx : x ∈ last) (hy : (turns c x)[j]? = some y) (h : y ∉ found ++ next) : Bj c r found last (next ++ [y]) i x (j + 1) := by
  have up : ∀ z, z ∈ found ++ next → z ∈ found ++ (next ++ [y]) := fun z hz => by
    rw [← List.append_assoc]
    exact List.mem_append.mpr (.inl hz)
  refine ⟨⟨?_, fun z hz => ?_, fun z hz w hw => up w (B.b.dn z hz w hw)⟩, fun z hz => ?_⟩
  · rw [← List.append_assoc]
    refine List.nodup_append.mpr ⟨B.b.nd, by simp, fun a ha b hb => ?_⟩
    rw [List.mem_singleton.mp hb]
    exact fun e => h (e ▸ ha)
  · rcases List.mem_append.mp hz with hz | hz
    · exact B.b.rc z hz
    · rw [List.mem_singleton.mp hz]
      exact .tail (F.rc x (F.sub x hx)) ((mem_turns C).mp (List.mem_of_getElem? hy))
  · rcases take_succ_mem hy hz with hz | rfl
    · exact up z (B.dn z hz)
    · simp
theorem Bj.done {i : Nat} {x : Rw} (B : Bj c r found last next i x (turns c x).length) (hx : last[i]? = some x) : Bi c r found last next (i + 1) :=
  ⟨B.b.nd, B.b.rc, fun z hz => by
    rcases take_succ_mem hx hz with hz | rfl
    · exact B.b.dn z hz
    · intro y hy
      exact B.dn y (by rw [List.take_length]; exact hy)⟩
theorem Bi.done (F : Bf c r found last) (B : Bi c r found last next last.length) : Bf c r (found ++ next) next := by
  refine ⟨B.nd, fun x hx => ?_, List.mem_append.mpr (.inl F.st), fun x hx => List.mem_append.mpr (.inr hx), fun x hx hn y hy => ?_⟩
  · rcases List.mem_append.mp hx with hx | hx
    · exact F.rc x hx
    · exact B.rc x hx
  · rcases List.mem_append.mp hx with hx | hx
    · by_cases hl : x ∈ last
      · exact B.dn x (by rw [List.take_length]; exact hl) y hy
      · exact List.mem_append.mpr (.inl (F.cls x hx hl y hy))
    · exact absurd hx hn
theorem Bf.all (C : Com c) (F : Bf c r found []) (x : Rw) : x ∈ found ↔ Rch c r x := by
  refine ⟨F.rc x, fun h => ?_⟩
  induction h with
  | refl => exact F.st
  | tail _ e ih => exact F.cls _ ih (by simp) _ ((mem_turns C).mpr e)
theorem Bf.most (F : Bf c r found last) (hr : r.length ≤ 4) : found.length ≤ K26.most := rch_most hr F.nd F.rc
theorem Bi.most {i : Nat} (F : Bf c r found last) (B : Bi c r found last next i) (hr : r.length ≤ 4) : (found ++ next).length ≤ K26.most := rch_most (c := c) hr B.nd fun s hs => (List.mem_append.mp hs).elim (F.rc s) (B.rc s)
theorem Bf.last_most (F : Bf c r found last) (hn : last.Nodup) (hr : r.length ≤ 4) : last.length ≤ K26.most := Nat.le_trans (nodup_le hn F.sub) (F.most hr)
end
end K26
end
section
set_option Elab.async false
set_option linter.all false
set_option maxRecDepth 100000
set_option maxHeartbeats 400000
/-! Rules beside the hand layer: data of tuples, in over a tuple, sorted of data. -/
namespace K26
open PySem PySem.Spec PyProof.Rows L2

/-! ### heaps: the tuples stand, all stands, all but one stands -/
def KpT (H H' : Hp) : Prop := ∀ a xs, Rd H a (.tup xs) → Rd H' a (.tup xs)
theorem KpT.refl (H : Hp) : KpT H H := fun _ _ h => h
theorem KpT.trans {H H1 H2 : Hp} (a : KpT H H1) (b : KpT H1 H2) : KpT H H2 := fun x xs h => b x xs (a x xs h)
theorem KpT.of_same {H H' : Hp} (e : Same H H') : KpT H H' := fun a xs h => by
  rcases h with h | ⟨o, h⟩
  · exact .inl (e _ _ h)
  · exact .inr ⟨o, e _ _ h⟩
/-- all but what stands at u -/
def But (u : Addr) (H H' : Hp) : Prop := ∀ b o, b ≠ u → H b = some o → H' b = some o
theorem But.refl (u : Addr) (H : Hp) : But u H H := fun _ _ _ h => h
theorem But.trans {u : Addr} {H H1 H2 : Hp} (a : But u H H1) (b : But u H1 H2) : But u H H2 := fun c o n h => b c o n (a c o n h)
theorem But.of_same {u : Addr} {H H' : Hp} (e : Same H H') : But u H H' := fun b o _ h => e b o h
theorem But.put {u : Addr} {H : Hp} {o : HO} : But u H (upd H u o) := fun b o' n h => by rw [upd_ne n]; exact h
theorem Same.new {H : Hp} {p : Addr} {o : HO} (h : H p = none) : Same H (upd H p o) := fun a u e => by
  rw [upd_ne (ne_of_none e h)]
  exact e
/-- an object that H does not know may change -/
theorem Same.mut {H H' : Hp} {p : Addr} {o : HO} (e : Same H H') (h : H p = none) : Same H (upd H' p o) := fun a u ha => by
  rw [upd_ne (ne_of_none ha h)]
  exact e a u ha
theorem But.mut {u : Addr} {H H' : Hp} {p : Addr} {o : HO} (e : But u H H') (h : H p = none) : But u H (upd H' p o) := fun a x n ha => by
  rw [upd_ne (ne_of_none ha h)]
  exact e a x n ha
theorem But.free {u : Addr} {H H' : Hp} (e : But u H H') {l : Addr} (n : l ≠ u) (h : H' l = none) : H l = none := by
  cases q : H l with
  | none => rfl
  | some o =>
    rw [e l o n q] at h
    cases h
/-- what stands at u is no tuple -/
theorem KpT.of_but {u : Addr} {H H' : Hp} {ys : List V} (e : But u H H') (hu : H u = some (.lst ys)) : KpT H H' := fun a xs h => by
  have hn : a ≠ u := fun z => by
    rw [z] at h
    rcases h with h | ⟨o, h⟩ <;> (rw [hu] at h; cases h)
  rcases h with h | ⟨o, h⟩
  · exact .inl (e _ _ hn h)
  · exact .inr ⟨o, e _ _ hn h⟩
theorem KpT.upd_lst {H : Hp} {l : Addr} {ys : List V} {o : HO} (h : H l = some (.lst ys)) : KpT H (upd H l o) := KpT.of_but But.put h
theorem KpT.seq {K : PySem.W.Frag} {H H' : Hp} {a : Addr} {xs : List V} (e : KpT H H') (h : SqT K H a xs) : SqT K H' a xs := by
  rcases h with h | h
  · exact .inl (e _ _ h)
  · exact .inr h

/-! ### data -/
mutual
/-- no list within -/
def tupD : PyData → Bool
  | .none => true
  | .bool _ => true
  | .int _ => true
  | .str _ => true
  | .list _ => false
  | .tuple ds => tupDs ds
  | .dict _ => false
def tupDs : List PyData → Bool
  | [] => true
  | d :: ds => tupD d && tupDs ds
end
theorem tupDs_cons {d : PyData} {ds : List PyData} (h : tupDs (d :: ds) = true) : tupD d = true ∧ tupDs ds = true := by
  unfold tupDs at h
  exact Bool.and_eq_true_iff.mp h
end K26
namespace L2
open PySem PySem.Spec PyProof.Rows K26
section
variable {K : PySem.W.Frag} {H H' : Hp}
mutual
theorem Dp.kpt (e : KpT H H') : ∀ (d : PyData) (v : V), tupD d = true → Dp K H v d → Dp K H' v d
  | .none, _, _, h => by cases h; exact .non
  | .bool _, _, _, h => by cases h; exact .bl _
  | .int _, _, _, h => by cases h; exact .int _
  | .str _, _, _, h => by cases h; exact .str _
  | .list _, _, t, _ => by unfold tupD at t; cases t
  | .tuple ds, _, t, h => by
    unfold tupD at t
    cases h with
    | tup hs ha => exact .tup (e.seq hs) (DpAll.kpt e ds _ t ha)
  | .dict _, _, t, _ => by unfold tupD at t; cases t
theorem DpAll.kpt (e : KpT H H') : ∀ (ds : List PyData) (vs : List V), tupDs ds = true → DpAll K H vs ds → DpAll K H' vs ds
  | [], _, _, h => by cases h; exact .nil
  | d :: ds, _, t, h => by
    obtain ⟨t1, t2⟩ := tupDs_cons t
    cases h with
    | cons h1 h2 => exact .cons (Dp.kpt e d _ t1 h1) (DpAll.kpt e ds _ t2 h2)
end
mutual
theorem Dp.same (e : Same H H') : ∀ (d : PyData) (v : V), Dp K H v d → Dp K H' v d
  | .none, _, h => by cases h; exact .non
  | .bool _, _, h => by cases h; exact .bl _
  | .int _, _, h => by cases h; exact .int _
  | .str _, _, h => by cases h; exact .str _
  | .list ds, _, h => by
    cases h with
    | lst hs ha => exact .lst (e.seq hs) (DpAll.same e ds _ ha)
  | .tuple ds, _, h => by
    cases h with
    | tup hs ha => exact .tup ((KpT.of_same e).seq hs) (DpAll.same e ds _ ha)
  | .dict _, _, h => by cases h
theorem DpAll.same (e : Same H H') : ∀ (ds : List PyData) (vs : List V), DpAll K H vs ds → DpAll K H' vs ds
  | [], _, h => by cases h; exact .nil
  | d :: ds, _, h => by
    cases h with
    | cons h1 h2 => exact .cons (Dp.same e d _ h1) (DpAll.same e ds _ h2)
end
theorem DpAll.len : ∀ {vs : List V} {ds : List PyData}, DpAll K H vs ds → vs.length = ds.length
  | _, _, .nil => rfl
  | _, _, .cons _ t => by rw [List.length_cons, List.length_cons, DpAll.len t]
theorem DpAll.get : ∀ {vs : List V} {ds : List PyData} {i : Nat} {v : V}, DpAll K H vs ds → vs[i]? = some v → ∃ d, ds[i]? = some d ∧ Dp K H v d
  | _, _, _, _, .nil, e => by simp at e
  | _, _, 0, _, .cons h _, e => by simp at e; subst e; exact ⟨_, rfl, h⟩
  | _, _, i + 1, v, .cons _ t, e => by
    obtain ⟨d, h1, h2⟩ := DpAll.get (i := i) t (by simpa using e)
    exact ⟨d, by simpa using h1, h2⟩
theorem DpAll.at : ∀ {vs : List V} {ds : List PyData} {i : Nat} {d : PyData}, DpAll K H vs ds → ds[i]? = some d → ∃ v, vs[i]? = some v ∧ Dp K H v d
  | _, _, _, _, .nil, e => by simp at e
  | _, _, 0, _, .cons h _, e => by simp at e; subst e; exact ⟨_, rfl, h⟩
  | _, _, i + 1, v, .cons _ t, e => by
    obtain ⟨d, h1, h2⟩ := DpAll.at (i := i) t (by simpa using e)
    exact ⟨d, by simpa using h1, h2⟩
theorem DpAll.app : ∀ {vs ws : List V} {ds es : List PyData}, DpAll K H vs ds → DpAll K H ws es → DpAll K H (vs ++ ws) (ds ++ es)
  | _, _, _, _, .nil, h => h
  | _, _, _, _, .cons h t, g => .cons h (DpAll.app t g)
theorem DpAll.one {v : V} {d : PyData} (h : Dp K H v d) : DpAll K H [v] [d] := .cons h .nil
theorem DpAll.two {v w : V} {d e : PyData} (h : Dp K H v d) (g : Dp K H w e) : DpAll K H [v, w] [d, e] := .cons h (.cons g .nil)
theorem DpAll.take : ∀ {vs : List V} {ds : List PyData} (n : Nat), DpAll K H vs ds → DpAll K H (vs.take n) (ds.take n)
  | _, _, 0, _ => by simp; exact .nil
  | _, _, n + 1, .nil => by simp; exact .nil
  | _, _, n + 1, .cons h t => by
    rw [List.take_succ_cons, List.take_succ_cons]
    exact .cons h (DpAll.take n t)
theorem DpAll.drop : ∀ {vs : List V} {ds : List PyData} (n : Nat), DpAll K H vs ds → DpAll K H (vs.drop n) (ds.drop n)
  | _, _, 0, h => by simpa using h
  | _, _, n + 1, .nil => by simp; exact .nil
  | _, _, n + 1, .cons h t => by
    rw [List.drop_succ_cons, List.drop_succ_cons]
    exact DpAll.drop n t
theorem DpAll.erase : ∀ {vs : List V} {ds : List PyData} (n : Nat), DpAll K H vs ds → DpAll K H (vs.eraseIdx n) (ds.eraseIdx n)
  | _, _, _, .nil => by simp; exact .nil
  | _, _, 0, .cons _ t => by simpa using t
  | _, _, n + 1, .cons h t => by
    rw [List.eraseIdx_cons_succ, List.eraseIdx_cons_succ]
    exact .cons h (DpAll.erase n t)
theorem DpAll.rev : ∀ {vs : List V} {ds : List PyData}, DpAll K H vs ds → DpAll K H vs.reverse ds.reverse
  | _, _, .nil => .nil
  | _, _, .cons h t => by
    rw [List.reverse_cons, List.reverse_cons]
    exact (DpAll.rev t).app (.one h)
/-- as a tuple it stands at an address -/
theorem Dp.tup_inv {v : V} {ds : List PyData} (h : Dp K H v (.tuple ds)) : ∃ a xs, v = .ref a ∧ SqT K H a xs ∧ DpAll K H xs ds := by
  cases h with
  | tup h1 h2 => exact ⟨_, _, rfl, h1, h2⟩
theorem Dp.lst_inv {v : V} {ds : List PyData} (h : Dp K H v (.list ds)) : ∃ a xs, v = .ref a ∧ SqL K H a xs ∧ DpAll K H xs ds := by
  cases h with
  | lst h1 h2 => exact ⟨_, _, rfl, h1, h2⟩
theorem Dp.int_inv {v : V} {i : Int} (h : Dp K H v (.int i)) : v = .int i := by cases h; rfl
theorem Dp.bl_inv {v : V} {b : Bool} (h : Dp K H v (.bool b)) : v = .bl b := by cases h; rfl
theorem DpAll.two_inv {vs : List V} {d e : PyData} (h : DpAll K H vs [d, e]) : ∃ v w, vs = [v, w] ∧ Dp K H v d ∧ Dp K H w e := by
  cases h with
  | cons h1 t =>
    cases t with
    | cons h2 t =>
      cases t
      exact ⟨_, _, rfl, h1, h2⟩
end

end L2
namespace K26
open PySem PySem.Spec PyProof.Rows L2
/-! ### x in t, t a tuple of data -/
section
variable {X : Cx}
def rInT (K : PySem.W.Frag) : R2 := fun x y H Q => ∃ d ds, Dp K H x d ∧ Dp K H y (.tuple ds) ∧ SeqAt.shaped d = true ∧ SeqAt.shaped (.tuple ds) = true ∧ Q (.bl (ds.any fun z => PyData.eqv z d)) H
theorem op_inT (hu : X.A.units + 65 < cLine) : OpR X (compareOp .In) (rInT X.K) := by
  intro pins s σ H x y v u Q I rx ry h
  obtain ⟨d, ds, hd, he, sd, se, q⟩ := h
  obtain ⟨as, r1⟩ := Dp.reads I d x v hd rx
  obtain ⟨bs, r2⟩ := Dp.reads I (.tuple ds) y u he ry
  have hxs : PyData.canLayAll0 ds = true := SeqAt.canLay_of_shaped se
  exact SeqAt.in_tuple_reads r2 r1 hxs (SeqAt.canLay_of_shaped sd) (room_in_shaped sd hu) ⟨.bl _, H, I, rfl, q⟩

/-! ### sorted(xs), xs a list of data of one make, any length -/
open PySem.W in
def rSortedD (K : PySem.W.Frag) : List V → Hp → VK → Prop := fun vs H Q => ∃ (a : Addr) (xs : List V) (ds : List PyData), vs = [V.ref a] ∧ SqL K H a xs ∧ DpAll K H xs ds ∧ PySem.W.AllAlike ds ∧ (PySem.W.Sortable ds ∨ ds.length ≤ 1) ∧ (∀ d ∈ ds, d.depth ≤ 60) ∧
  ∀ ys p, DpAll K H ys (ds.mergeSort (PySem.W.dataLe false id)) → H p = none → Q (.ref p) (upd H p (.lst ys))
theorem each_vals {K : PySem.W.Frag} {H : Hp} : ∀ {us : List Value} {ds : List PyData}, PySem.W.EachIs (fun u d => ∃ v, RelV v u ∧ Dp K H v d) us ds → ∃ ys, Vals ys us ∧ DpAll K H ys ds
  | [], [], .nil => ⟨[], .nil, .nil⟩
  | _ :: _, _ :: _, .cons ⟨v, r, h⟩ t => by
    obtain ⟨ys, r2, h2⟩ := each_vals t
    exact ⟨v :: ys, .cons r r2, .cons h h2⟩
theorem vals_each {K : PySem.W.Frag} {H : Hp} : ∀ {vs : List V} {us : List Value} {ds : List PyData}, Vals vs us → DpAll K H vs ds → PySem.W.EachIs (fun u d => ∃ v, RelV v u ∧ Dp K H v d) us ds
  | _, _, _, .nil, .nil => .nil
  | _, _, _, .cons r t, .cons h g => .cons ⟨_, r, h⟩ (vals_each t g)
theorem perm_short {α : Type} {a b : List α} (h : b.length ≤ 1) (p : a.Perm b) : a = b := by
  cases b with
  | nil => exact p.eq_nil
  | cons x b =>
    have : b = [] := List.length_eq_zero_iff.mp (by rw [List.length_cons] at h; omega)
    subst this
    exact List.perm_singleton.mp p
theorem sort_short {α : Type} {a : List α} {le : α → α → Bool} (h : a.length ≤ 1) : a.mergeSort le = a := perm_short h (List.mergeSort_perm a le)
theorem cr_sortedD (hu : X.A.units + 64 < cLine) : CallR X (.builtin "sorted") (rSortedD X.K) := by
  intro pins s σ H vs us Q I r h
  obtain ⟨a, xs, ds, rfl, hs, hd, hal, hk, hdp, q⟩ := h
  obtain ⟨its, rv, hl, hz⟩ := I.list hs
  obtain ⟨u, rfl, ru⟩ := vals1 r
  obtain rfl : u = Value.ref a := ru
  have e := vals_each rv hd
  have hlen : ds.length ≤ sizeLine := by rw [← hd.len]; exact hz
  have fin : ∀ out : List Value, out.length = ds.length → PySem.W.EachIs (fun u d => ∃ v, RelV v u ∧ Dp X.K H v d) out (ds.mergeSort (PySem.W.dataLe false id)) →
      EP X pins σ Q (.ref (s.heap.objs.size + 1)) { s with heap := sortedAll s.heap its out.toArray } := by
    intro out ho eo
    obtain ⟨ys, ry, hy⟩ := each_vals eo
    obtain ⟨c, hc⟩ := sortedAll_at s.heap its out.toArray
    have hf : H (s.heap.objs.size + 1) = none := I.hok.fresh (Nat.le_succ _)
    refine ⟨.ref (s.heap.objs.size + 1), upd H (s.heap.objs.size + 1) (.lst ys), I.laid (t' := s.toks) (fun _ _ => sortedAll_old) (Nat.le_succ _) ⟨?_, out, c, ry, hc⟩, rfl, q ys _ hy hf⟩
    rw [ry.length, ho]
    exact hlen
  rcases hk with hk | hk
  · refine PySem.W.sorted_data (bs := ds) (enc := id) (R := fun u d => ∃ v, RelV v u ∧ Dp X.K H v d) hl.isList e ?_ (by rw [List.map_id]; exact hal) (by rw [List.map_id]; exact hk) hlen (fun d hm => ?_) fin
    · exact e.mono fun u d ⟨v, r1, h1⟩ => Dp.reads I d v u h1 r1
    · have := hdp d hm
      show X.A.units + 2 + d.depth < cLine
      omega
  · have hl1 : its.length ≤ 1 := by rw [← rv.length, hd.len]; exact hk
    refine SrtO.sorted_ord (ltv := fun _ _ => false) ⟨fun _ _ h => rfl, fun _ _ _ _ _ => rfl⟩ hl.isList (by rw [← rv.length]; exact hz) (fun h2 => absurd h2 (by omega)) fun out h1 h2 => ?_
    have eo : out = its := perm_short hl1 h2.perm
    subst eo
    refine fin out (by rw [← rv.length, hd.len]) ?_
    rw [sort_short hk]
    exact e
end
end K26
end
section
set_option Elab.async false
set_option linter.all false
set_option maxRecDepth 100000
set_option maxHeartbeats 400000
/-! Rules beside the hand layer: t[::-1] of a tuple; min of a list of pairs of ints; zip of two tuples walked; a dict whose keys are nested tuples. -/
namespace K26
open PySem PySem.Spec PyProof.Rows L2 HT

/-! ### t[::-1] -/
section
variable {prog : Program} {w : World} {A : Around} {E : Value → Shared → Prop} {s : Shared}
theorem adjust_rev (n : Nat) : Builtin.Slice.sliceAdjust none none (-1) (n : Int) = ((n : Int) - 1, -1) := rfl
theorem places_rev (n : Nat) : Builtin.Slice.slicePlaces ((n : Int) - 1) (-1) (-1) = n := by
  unfold Builtin.Slice.slicePlaces
  have h1 : ¬ ((-1 : Int) > 0) := by decide
  have h2 : (-(-1 : Int)) = 1 := by decide
  rw [if_neg h1, h2, Int.ediv_one]
  split <;> omega
theorem fm_congr {α β : Type} {f g : α → Option β} : ∀ {l : List α}, (∀ x ∈ l, f x = g x) → l.filterMap f = l.filterMap g
  | [], _ => rfl
  | x :: l, h => by
    rw [List.filterMap_cons, List.filterMap_cons, h x List.mem_cons_self, fm_congr fun y hy => h y (List.mem_cons_of_mem _ hy)]
theorem pick_rev (xs : List Value) : ((List.range xs.length).filterMap fun (k : Nat) => xs.toArray[(((xs.length : Int) - 1) + (k : Int) * (-1)).toNat]?) = xs.reverse := by
  have e : ∀ k ∈ List.range xs.length, xs.toArray[(((xs.length : Int) - 1) + (k : Int) * (-1)).toNat]? = xs.reverse[k]? := by
    intro k hk
    have hk := List.mem_range.mp hk
    have h1 : (((xs.length : Int) - 1) + (k : Int) * (-1)).toNat = xs.length - 1 - k := by omega
    rw [h1, List.getElem?_toArray, List.getElem?_reverse hk]
  rw [fm_congr e]
  have h2 : ∀ (ys : List Value) (n : Nat), n ≤ ys.length → (List.range n).filterMap (fun k => ys[k]?) = ys.take n := by
    intro ys n
    induction n with
    | zero => intro _; rfl
    | succ n ih =>
      intro h
      rw [List.range_succ, List.filterMap_append, ih (by omega), List.take_add_one]
      have e2 : ys[n]? = some ys[n] := List.getElem?_eq_getElem h
      simp [e2]
  rw [h2 xs.reverse xs.length (by simp), List.take_of_length_le (by simp)]
theorem sliceApplied_rev {sl : Addr} {t : Tok} {n : Nat} {Q : Int × Int × Nat → Shared → Prop} (hs : s.heap.IsSliceOf sl .none .none (.int (-1) t)) (h : Q ((n : Int) - 1, -1, n) s) : wpAny (model prog w) A (Builtin.Slice.sliceApplied (.ref sl) (pure (n : Int))) Q E s := by
  obtain ⟨os, hos, hcs, hds⟩ := id hs
  unfold Builtin.Slice.sliceApplied Builtin.Slice.sliceFields
  refine wpAny_bind (wpAny_bind (wpAny_field hos hds (x := .none) rfl (wpAny_bind (wpAny_field hos hds (x := .none) rfl (wpAny_bind (wpAny_field hos hds (x := .int (-1) t) rfl (wpAny_pure ?_)))))))
  refine wpAny_bind (slicePart_int ?_)
  show wpAny _ _ (if ((-1 : Int) == 0) = true then _ else _) _ _ s
  rw [if_neg (by decide)]
  refine wpAny_bind (slicePart_none (wpAny_bind (slicePart_none (wpAny_bind (wpAny_pure ?_)))))
  show wpAny _ _ (match Builtin.Slice.sliceAdjust none none (-1) (n : Int) with | (lo, hi) => pure (lo, (-1 : Int), Builtin.Slice.slicePlaces lo hi (-1))) _ _ s
  rw [adjust_rev n]
  show wpAny _ _ (pure ((n : Int) - 1, (-1 : Int), Builtin.Slice.slicePlaces ((n : Int) - 1) (-1) (-1))) _ _ s
  rw [places_rev]
  exact wpAny_pure h
theorem getItem_tuple_rev {t sl : Addr} {items : List Value} {u : Tok} {Q : Value → Shared → Prop} (ht : IsTup s.heap t items.toArray) (hs : s.heap.IsSliceOf sl .none .none (.int (-1) u))
    (h : Q (.ref s.heap.objs.size) { s with heap := s.heap.push { cls := .type "tuple", data := .seq items.reverse.toArray } }) (hsz : items.length ≤ sizeLine) : wpAny (model prog w) A (getItem (.ref t) (.ref sl)) Q E s := by
  have htake : sizeOk (.seq items.reverse.toArray) := by
    show items.reverse.toArray.size ≤ sizeLine
    rw [List.size_toArray, List.length_reverse]
    exact hsz
  obtain ⟨os, hos, hcs, hds⟩ := id hs
  have hTs : s.TypeIs (.ref sl) "slice" := ⟨os, hos, hcs⟩
  unfold getItem
  try with_reducible refine wpAny_holding ?_
  first | refine wpAny_bind (wpAny_pure ?_) | skip
  refine wpAny_bind (wpAny_sequenceKey ht.typeIs (by decide) ?_)
  refine wpAny_bind (wpAny_callSpecial?_slot (name := Str.ofString "__getitem__") ht.typeIs PyProof.Rows.slot_tuple_getitem
    (wpAny_call_entry PyProof.Rows.slot_tuple_getitem ht.typeIs entry_tuple_getitem ?_ (args_tuple_getitem _ _)))
  show wpAny _ _ (Builtin.Tuple.tupleItemsOf (.ref t) >>= _) _ _ s
  refine wpAny_bind (tupleItemsOf_ ht ?_)
  refine wpAny_bind (wpAny_typeOf hTs ?_)
  rw [if_pos (by decide)]
  have e0 : ((items.toArray.size : Nat) : Int) = ((items.length : Nat) : Int) := by simp
  rw [e0]
  refine wpAny_bind (sliceApplied_rev hs ?_)
  have hno : ¬ ((((items.length : Int) - 1) == 0 && (-1 : Int) == 1 && items.length == items.toArray.size) = true) := by
    intro q
    rw [Bool.and_eq_true, Bool.and_eq_true] at q
    have q1 := q.1.2
    exact absurd q1 (by decide)
  show wpAny _ _ (if (((items.length : Int) - 1) == 0 && (-1 : Int) == 1 && items.length == items.toArray.size) = true then _ else _) _ _ s
  rw [if_neg hno, pick_rev]
  first
    | exact wpAny_bind (m := Builtin.Tuple.tupleExact _) (wpAny_newObj_type (wpAny_pure ⟨_, rfl, wpAny_pure h⟩) htake)
    | exact wpAny_bind (m := Builtin.Tuple.tupleExact _) (wpAny_newObj_type (wpAny_bind (wpAny_pure (wpAny_pure ⟨_, rfl, wpAny_pure h⟩))) htake)
    | exact wpAny_bind (wpAny_bind (m := Builtin.Tuple.tupleExact _) (wpAny_newObj_type (wpAny_pure (wpAny_pure ⟨_, rfl, wpAny_pure h⟩)) htake))
    | exact wpAny_bind (wpAny_bind (m := Builtin.Tuple.tupleExact _) (wpAny_newObj_type (wpAny_pure ⟨_, rfl, wpAny_pure h⟩) htake))
end
section
variable {X : Cx}
theorem isPart_none {v : Value} (h : IsPart v none) : v = .none := by cases h; rfl
theorem isPart_int {v : Value} {i : Int} (h : IsPart v (some i)) : ∃ t, v = .int i t := by cases h; exact ⟨_, rfl⟩
def tRevT (K : PySem.W.Frag) (te : TE) : TE := fun σ H Q => te σ H fun x H1 => ∃ a xs, x = .ref a ∧ SqT K H1 a xs ∧ ∀ p, H1 p = none → Q (.ref p) (upd H1 p (.tup xs.reverse))
theorem pe_revT {e : Expr} {te : TE} {k : Nat} {p1 p2 p3 pos : Pos} (he : PE X e te) : PE X (.Subscript e (.Slice none none (some (.UnaryOp .USub (.Constant (.int 1) k p1) p2)) p3) pos) (tRevT X.K te) := by
  refine ⟨fun pins s σ H Q I h => ?_⟩
  refine Subscript_ (thn (he.run pins s σ H _ I h) fun v s1 ⟨x, H1, I1, r1, q1⟩ => ?_)
  obtain ⟨a, xs, ex, hx, q⟩ := q1
  subst ex
  cases r1
  have hst : PO X (some (.UnaryOp .USub (.Constant (.int 1) k p1) p2)) (tPart (tUn (rU fun i => .int (-i)) (tC (.int 1)))) := po_some (pe_un un_neg pe_int)
  refine wpAny_Slice (thn (po_none.run pins s1 σ H1 (fun o H2 => o = none ∧ H2 = H1) I1 ⟨rfl, rfl⟩) fun vl s2 ⟨l, H2, I2, pl, el, e2⟩ => ?_)
  subst el e2
  refine thn (po_none.run pins s2 σ H2 (fun o H3 => o = none ∧ H3 = H2) I2 ⟨rfl, rfl⟩) fun vu s3 ⟨u, H3, I3, pu, eu, e3⟩ => ?_
  subst eu e3
  refine thn (hst.run pins s3 σ H3 (fun o H4 => o = some (-1) ∧ H4 = H3) I3 ⟨1, rfl, -1, rfl, rfl, rfl⟩) fun vs s4 ⟨o, H4, I4, ps, eo, e4⟩ => ?_
  subst eo e4
  have I5 : Inv X pins σ H4 { s4 with heap := s4.heap.push { cls := .type "slice", data := .fields #[vl, vu, vs] } } := I4.kept (t' := s4.toks) fun b ob q => Heap.get?_push_of_some _ q
  obtain ⟨its, r, ht, hz⟩ := I5.tuple hx
  have hlen := r.length
  obtain rfl := isPart_none pl
  obtain rfl := isPart_none pu
  obtain ⟨tk, rfl⟩ := isPart_int ps
  show wpAny (model X.prog X.w) X.A (subscriptTail e (.Slice none none (some (.UnaryOp .USub (.Constant (.int 1) k p1) p2)) p3) (.ref a) (.ref s4.heap.objs.size)) (EP X pins σ Q) X.xe { s4 with heap := s4.heap.push { cls := .type "slice", data := .fields #[.none, .none, .int (-1) tk] } }
  refine tail_any (ops := [.ref a, .ref s4.heap.objs.size]) ht.typeIs PyProof.Rows.slot_tuple_getitem.lookup ?_ (by with_unfolding_all rfl)
  refine getItem_tuple_rev ht (Heap.IsSliceOf.new _ _ _ _) ?_ (by omega)
  refine ⟨.ref _, _, I5.laid (t' := s4.toks) (o := .tup xs.reverse) (fun b ob q => Heap.get?_push_of_some _ q) (Nat.le_refl _) ?_, rfl, q _ (I5.hok.fresh (Nat.le_refl _))⟩
  exact ⟨by rw [List.length_reverse]; exact hz, _, r.reverse, _, Heap.get?_push_size _ rfl, rfl, 0, rfl⟩
end

/-! ### min of pairs -/
def pairI (p : Int × Int) : PyData := .tuple [.int p.1, .int p.2]
def le2 (p q : Int × Int) : Prop := p.1 < q.1 ∨ (p.1 = q.1 ∧ p.2 ≤ q.2)
theorem minD_pairs : ∀ (ps : List (Int × Int)) (x : Int × Int), ∃ m, PySem.W.minD (pairI x) (ps.map pairI) = pairI m ∧ m ∈ x :: ps ∧ ∀ q ∈ x :: ps, le2 m q
  | [], x => ⟨x, rfl, by simp, fun q hq => by
      rw [List.mem_singleton.mp hq]
      exact .inr ⟨rfl, Int.le_refl _⟩⟩
  | y :: ps, x => by
    have lt : PySem.W.dataLt (pairI y) (pairI x) = decide (y.1 < x.1 ∨ (y.1 = x.1 ∧ y.2 < x.2)) := PySem.W.dataLt_ii _ _ _ _
    by_cases h : y.1 < x.1 ∨ (y.1 = x.1 ∧ y.2 < x.2)
    · obtain ⟨m, h1, h2, h3⟩ := minD_pairs ps y
      refine ⟨m, ?_, List.mem_cons_of_mem _ h2, fun q hq => ?_⟩
      · rw [← h1]
        show (ps.map pairI).foldl _ (if PySem.W.dataLt (pairI y) (pairI x) = true then pairI y else pairI x) = _
        rw [lt, decide_eq_true h, if_pos rfl]
        rfl
      · rcases List.mem_cons.mp hq with rfl | hq
        · have := h3 y List.mem_cons_self
          unfold le2 at this ⊢
          omega
        · exact h3 q hq
    · obtain ⟨m, h1, h2, h3⟩ := minD_pairs ps x
      refine ⟨m, ?_, ?_, fun q hq => ?_⟩
      · rw [← h1]
        show (ps.map pairI).foldl _ (if PySem.W.dataLt (pairI y) (pairI x) = true then pairI y else pairI x) = _
        rw [lt, decide_eq_false h, if_neg Bool.false_ne_true]
        rfl
      · rcases List.mem_cons.mp h2 with h2 | h2
        · exact h2 ▸ List.mem_cons_self
        · exact List.mem_cons_of_mem _ (List.mem_cons_of_mem _ h2)
      · rcases List.mem_cons.mp hq with rfl | hq
        · exact h3 q List.mem_cons_self
        · rcases List.mem_cons.mp hq with rfl | hq
          · have := h3 x List.mem_cons_self
            unfold le2 at this ⊢
            omega
          · exact h3 q (List.mem_cons_of_mem _ hq)
theorem pairI_inj {p q : Int × Int} (h : pairI p = pairI q) : p = q := by
  unfold pairI at h
  injection h with h
  injection h with h1 h
  injection h with h2 _
  injection h1 with h1
  injection h2 with h2
  exact Prod.ext h1 h2
theorem pairI_alike (p q : Int × Int) : PySem.W.alike (pairI p) (pairI q) = true := by simp [pairI, PySem.W.alike, PySem.W.alikeAll]
def rMinP (K : PySem.W.Frag) : List V → Hp → VK → Prop := fun vs H Q => ∃ (a : Addr) (xs : List V) (ps : List (Int × Int)), vs = [V.ref a] ∧ SqL K H a xs ∧ DpAll K H xs (ps.map pairI) ∧ ps ≠ [] ∧
  ∀ x p, Dp K H x (pairI p) → p ∈ ps → (∀ q ∈ ps, le2 p q) → Q x H
section
variable {X : Cx}
theorem depth_pairs : ∀ ps : List (Int × Int), PyData.depthAll (ps.map pairI) ≤ 1
  | [] => by simp [PyData.depthAll]
  | p :: ps => by
    have := depth_pairs ps
    simp only [List.map_cons, PyData.depthAll, pairI, PyData.depth]
    omega
theorem cr_minP (hc : X.calm = true) (hu : X.A.units + 64 < cLine) : CallR X (.builtin "min") (rMinP X.K) := by
  intro pins s σ H vs us Q I r h
  obtain ⟨a, xs, ps, rfl, hs, hd, hne, q⟩ := h
  obtain ⟨its, rv, hl, hz⟩ := I.list hs
  rw [Vals.ref1 r]
  obtain ⟨as, hr⟩ := Dp.readsAll I _ _ its hd rv
  cases ps with
  | nil => exact absurd rfl hne
  | cons p ps =>
    obtain ⟨m, h1, h2, h3⟩ := minD_pairs ps p
    have hdep := depth_pairs (p :: ps)
    refine PySem.W.min_list_data (x := pairI p) (xs := ps.map pairI) (I.ok.hd hc) hl.isList (show ReadsAll s.heap its.toArray.toList _ _ from hr) ⟨fun x hx y hy => ?_, fun x hx => ?_⟩ (by
      have : PyData.depthAll (pairI p :: ps.map pairI) ≤ 1 := hdep
      omega) fun i v h' tk bs hi hb hk => ?_
    · have hx' : x ∈ (p :: ps).map pairI := hx
      have hy' : y ∈ (p :: ps).map pairI := hy
      obtain ⟨x', _, rfl⟩ := List.mem_map.mp hx'
      obtain ⟨y', _, rfl⟩ := List.mem_map.mp hy'
      exact pairI_alike _ _
    · have hx' : x ∈ (p :: ps).map pairI := hx
      obtain ⟨x', _, rfl⟩ := List.mem_map.mp hx'
      exact fun z => nomatch z
    · have hi' : its[i]? = some v := by simpa using hi
      have hlen := rv.length
      have hilt : i < xs.length := by
        rw [hlen]
        exact (List.getElem?_eq_some_iff.mp hi').1
      obtain ⟨u, hu1, hu2⟩ := rv.get (i := i) (x := xs[i]) (List.getElem?_eq_getElem hilt)
      rw [hi'] at hu1
      cases hu1
      obtain ⟨d, hd1, hd2⟩ := hd.get (List.getElem?_eq_getElem hilt)
      have hdm := List.mem_of_getElem? hd1
      obtain ⟨p', hp', rfl⟩ := List.mem_map.mp hdm
      have I2 : Inv X pins σ H { s with heap := h', toks := tk } := I.kept hk
      obtain ⟨bs2, hb2⟩ := Dp.reads I2 (pairI p') xs[i] v hd2 hu2
      rw [h1] at hb
      have e : pairI m = pairI p' := PySem.W.alike_unique _ _ _ _ _ (pairI_alike m p') hb hb2
      have e2 := pairI_inj e
      subst e2
      exact ⟨xs[i], H, I2, hu2, q _ _ hd2 h2 h3⟩
end

/-! ### zip of two tuples -/
theorem walk_zipT {K : PySem.W.Frag} {a b : Addr} {xs ys : List V} {n : Nat} (hn : n = min xs.length ys.length) : Walk (RZ.ItzT K a b) n (fun H => SqT K H a xs ∧ SqT K H b ys) (YPair (fun i => xs[i]?) (fun i => ys[i]?)) := by
  subst hn
  refine ⟨fun i _ hi q => ?_, fun _ q => ⟨xs, ys, q.1, q.2, by omega⟩, fun i H v H' _ q y => ?_⟩
  · have h1 : i < xs.length := by omega
    have h2 : i < ys.length := by omega
    exact ⟨xs, ys, xs[i], ys[i], q.1, q.2, by simp [h1], by simp [h2]⟩
  · obtain ⟨T, x, z, h1, h2, h3, h4, h5⟩ := y
    exact ⟨T, x, z, h1, h2, h3, h4 xs q.1, h5 ys q.2⟩
end K26
end
section
set_option Elab.async false
set_option linter.all false
set_option maxRecDepth 100000
set_option maxHeartbeats 400000
/-! Rules beside the hand layer: a dict whose keys are nested tuples: k not in d, d[k] = v of a new key, {k: v}. -/
namespace K26
open PySem PySem.Spec PyProof.Rows L2

theorem Rd.ext_no {H : Hp} {u : Addr} {φ : Heap → Prop} (h : H u = some (.ext φ)) (xs : List V) : ¬ Rd H u (.tup xs) := fun z => by
  rcases z with z | ⟨o, z⟩ <;> (rw [h] at z; cases z)
theorem KpT.of_but' {u : Addr} {H H' : Hp} (e : But u H H') (hu : ∀ xs, ¬ Rd H u (.tup xs)) : KpT H H' := fun a xs h => by
  have hn : a ≠ u := fun z => hu xs (z ▸ h)
  rcases h with h | ⟨o, h⟩
  · exact .inl (e _ _ hn h)
  · exact .inr ⟨o, e _ _ hn h⟩

/-! ### keys -/
mutual
theorem tupD_key : ∀ k : NestedKey, tupD k.data = true
  | .none => by simp [NestedKey.data, tupD]
  | .num _ => by simp [NestedKey.data, tupD]
  | .text _ => by simp [NestedKey.data, tupD]
  | .tup ks => by
    rw [NestedKey.data, tupD]
    exact tupDs_keys ks
theorem tupDs_keys : ∀ ks : List NestedKey, tupDs (NestedKey.datas ks) = true
  | [] => by simp [NestedKey.datas, tupDs]
  | k :: ks => by
    rw [NestedKey.datas, tupDs, tupD_key k, tupDs_keys ks]
    rfl
end
section
variable {X : Cx} {pins : List (Addr × Obj)} {σ : L2.St} {H : Hp} {s : Shared}
mutual
theorem nested_of (I : Inv X pins σ H s) : ∀ (k : NestedKey) (v : V) (u : Value), Dp X.K H v k.data → RelV v u → NestedIs s.heap k u
  | .none, v, u, h, r => by
    rw [NestedKey.data] at h
    cases h
    cases (show u = Value.none from r)
    exact .none
  | .num i, v, u, h, r => by
    rw [NestedKey.data] at h
    cases h
    obtain ⟨t, rfl⟩ := (show ∃ t, u = Value.int i t from r)
    exact .int i t
  | .text x, v, u, h, r => by
    rw [NestedKey.data] at h
    cases h
    obtain ⟨t, rfl⟩ := (show ∃ t, u = Value.str x t from r)
    exact .text x t
  | .tup ks, v, u, h, r => by
    rw [NestedKey.data] at h
    obtain ⟨a, xs, rfl, hs, ha⟩ := h.tup_inv
    obtain ⟨its, rv, ⟨o, ho, hc, n, hd⟩, _⟩ := I.tuple hs
    cases (show u = Value.ref a from r)
    exact .tup ho hc hd (by rw [List.toList_toArray]; exact nested_all I ks _ _ ha rv)
theorem nested_all (I : Inv X pins σ H s) : ∀ (ks : List NestedKey) (vs : List V) (us : List Value), DpAll X.K H vs (NestedKey.datas ks) → Vals vs us → NestedAll s.heap ks us
  | [], vs, us, h, r => by
    rw [NestedKey.datas] at h
    cases h
    cases r
    exact .nil
  | k :: ks, vs, us, h, r => by
    rw [NestedKey.datas] at h
    cases h with
    | cons h1 h2 =>
      cases r with
      | cons r1 r2 => exact .cons (nested_of I k _ _ h1 r1) (nested_all I ks _ _ h2 r2)
end
end

/-! ### the dict -/
def snP (P : Program) (w : World) (d : Addr) (xs : List (NestedKey × Addr × Value)) : Heap → Prop := fun h => ∃ o es ep, h.get? d = some o ∧ o.ExactDict ∧ o.data = .dict es ep ∧ es.toList = xs.map (entryOfKey (nestedKind P w))
def snO (P : Program) (w : World) (d : Addr) (xs : List (NestedKey × Addr × Value)) : HO := .ext (snP P w d xs)
/-- at d stands a dict whose keys are ks -/
def SnAt (P : Program) (w : World) (K : PySem.W.Frag) (H : Hp) (d : Addr) (ks : List NestedKey) : Prop :=
  ∃ xs, H d = some (snO P w d xs) ∧ xs.map (·.1) = ks ∧ (∀ x ∈ xs, Dp K H (.ref x.2.1) x.1.data ∧ x.1.depth ≤ 8) ∧ ks.Nodup ∧ (d == sysModules) = false
theorem snO_ok {P : Program} {w : World} {H : Hp} {h : Heap} {d : Addr} {xs : List (NestedKey × Addr × Value)} (x : h.DictOfH (nestedKind P w) d xs) : ObjOk P w H h d (snO P w d xs) := by
  obtain ⟨o, es, ep, h1, h2, h3, h4, _⟩ := x
  refine ⟨⟨o, es, ep, h1, h2, h3, h4⟩, ⟨o, h1⟩, fun g g' ⟨o, es, ep, e1, e2, e3, e4⟩ k => ⟨o, es, ep, k o e1, e2, e3, e4⟩⟩
theorem SnAt.keep {P : Program} {w : World} {K : PySem.W.Frag} {H H' : Hp} {d : Addr} {ks : List NestedKey} (x : SnAt P w K H d ks) (hd : H' d = H d) (k : KpT H H') : SnAt P w K H' d ks := by
  obtain ⟨xs, h1, h2, h3, h4, h5⟩ := x
  exact ⟨xs, hd.trans h1, h2, fun y hy => ⟨Dp.kpt k _ _ (tupD_key _) (h3 y hy).1, (h3 y hy).2⟩, h4, h5⟩
section
variable {X : Cx} {pins : List (Addr × Obj)} {σ : L2.St} {H : Hp} {s : Shared}
theorem SnAt.dict (I : Inv X pins σ H s) {d : Addr} {xs : List (NestedKey × Addr × Value)} (h1 : H d = some (snO X.prog X.w d xs)) (h3 : ∀ x ∈ xs, Dp X.K H (.ref x.2.1) x.1.data ∧ x.1.depth ≤ 8) (h4 : (xs.map (·.1)).Nodup) :
    s.heap.DictOfH (nestedKind X.prog X.w) d xs := by
  obtain ⟨⟨o, es, ep, e1, e2, e3, e4⟩, _⟩ := I.hok d _ h1
  exact ⟨o, es, ep, e1, e2, e3, e4, fun x hx => ⟨nested_of I x.1 _ _ (h3 x hx).1 rfl, (h3 x hx).2⟩, h4⟩
theorem key_is (I : Inv X pins σ H s) {a : Addr} {k : NestedKey} (h : Dp X.K H (.ref a) k.data) (hd : k.depth ≤ 8) : (nestedKind X.prog X.w).is s.heap k a := ⟨nested_of I k _ _ h rfl, hd⟩
end
section
variable {X : Cx}
theorem sn_room (hu : X.A.units + 64 < cLine) : (nestedKind X.prog X.w).room X.A.in1 := by
  show X.A.units + 1 + 8 < cLine
  omega
theorem valueAt_in {κ : Type} [DecidableEq κ] {kvs : List (κ × Value)} {k : κ} : (valueAt kvs k).isSome = decide (k ∈ kvs.map (·.1)) := by
  cases e : (valueAt kvs k).isSome with
  | true => exact (decide_eq_true (valueAt_isSome.mp e)).symm
  | false =>
    refine (decide_eq_false fun h => ?_).symm
    rw [valueAt_isSome.mpr h] at e
    cases e
theorem keys_pairsH (xs : List (NestedKey × Addr × Value)) : (pairsH xs).map (·.1) = xs.map (·.1) := by
  unfold pairsH
  rw [List.map_map]
  rfl
def rNotInS (P : Program) (w : World) (K : PySem.W.Frag) : R2 := fun x y H Q => ∃ a d ks k, x = .ref a ∧ y = .ref d ∧ SnAt P w K H d ks ∧ Dp K H (.ref a) (NestedKey.data k) ∧ k.depth ≤ 8 ∧ Q (.bl (!decide (k ∈ ks))) H
theorem op_notInS (hu : X.A.units + 64 < cLine) : OpR X (compareOp .NotIn) (rNotInS X.prog X.w X.K) := by
  intro pins s σ H x y v u Q I rx ry h
  obtain ⟨a, d, ks, k, rfl, rfl, ⟨xs, h1, h2, h3, h4, h5⟩, hk, hkd, q⟩ := h
  cases (show v = Value.ref a from rx)
  cases (show u = Value.ref d from ry)
  subst h2
  have D := SnAt.dict I h1 h3 h4
  refine notIn_keyed (knd := nestedKind X.prog X.w) (sn_room hu) (key_is I hk hkd) h5 ⟨xs, D, rfl⟩ ?_
  refine ⟨.bl _, H, I.tok _, rfl, ?_⟩
  rw [valueAt_in, keys_pairsH]
  exact q
/-- d[k] = v, the key new -/
def sSPut (P : Program) (w : World) (K : PySem.W.Frag) (td ty tv : TE) : TS := fun D σ H => tv σ H fun v H1 => td σ H1 fun x H2 => ty σ H2 fun y H3 => ∃ a d k ks, x = .ref d ∧ y = .ref a ∧ SnAt P w K H3 d ks ∧ Dp K H3 (.ref a) (NestedKey.data k) ∧ k.depth ≤ 8 ∧ k ∉ ks ∧ ks.length < sizeLine ∧
  ∀ H', But d H3 H' → KpT H3 H' → SnAt P w K H' d (ks ++ [k]) → D.nx σ H'
theorem ps_sput {o i value : Expr} {td ty tv : TE} {pos pos' : Pos} (hu : X.A.units + 64 < cLine) (ho : PE X o td) (hi : PE X i ty) (hv : PE X value tv) (hs : swapsWith value (some (.Subscript o i pos')) pos.line X.env = pure false := by rfl) :
    PS X (.Assign [.Subscript o i pos'] value pos) (sSPut X.prog X.w X.K td ty tv) := by
  refine ⟨fun pins s σ H D I h => ?_⟩
  refine wpAny_Assign_Subscript (thn (hv.run pins s σ H _ I h) fun r s1 ⟨v, H1, I1, rv, q1⟩ => thn (ho.run pins s1 σ H1 _ I1 q1) fun u s2 ⟨x, H2, I2, rx, q2⟩ => thn (hi.run pins s2 σ H2 _ I2 q2) fun iv s3 ⟨y, H3, I3, ry, q3⟩ => ?_) hs
  obtain ⟨a, d, k, ks, ex, ey, ⟨xs, h1, h2, h3, h4, h5⟩, hk, hkd, hn, hl, q⟩ := q3
  subst ex ey
  obtain rfl : u = Value.ref d := rx
  obtain rfl : iv = Value.ref a := ry
  subst h2
  have DD := SnAt.dict I3 h1 h3 h4
  refine wpAny_setItem_heap (hsz := by rw [List.length_map] at hl; exact Nat.le_of_lt hl) (sn_room hu) (key_is I3 hk hkd) DD fun h' hm' hs' => ?_
  have en : atKey xs k = none := by
    have := valueAt_pairsH xs k
    have e2 := valueAt_in (kvs := pairsH xs) (k := k)
    rw [keys_pairsH, decide_eq_false hn, this, Option.isSome_map] at e2
    cases e : atKey xs k with
    | none => rfl
    | some p => rw [e] at e2; cases e2
  rw [storedH_new en] at hm'
  have he : ∃ q, h'.get? d = some q := let ⟨o, _, _, e, _⟩ := hm'; ⟨o, e⟩
  have kp : KpT H3 (upd H3 d (snO X.prog X.w d (xs ++ [(k, a, r)]))) := KpT.of_but' But.put (Rd.ext_no h1)
  have I4 : Inv X pins σ (upd H3 d (snO X.prog X.w d (xs ++ [(k, a, r)]))) { s3 with heap := h', toks := s3.toks + (nestedKind X.prog X.w).draws k } :=
    I3.write (x := d) (e := d) (by rw [h1]; exact True.intro) (.inl rfl) (fun b q hb z => (hs'.2 b hb).trans z) he (snO_ok hm')
  refine ⟨σ, _, I4, q _ But.put kp ⟨xs ++ [(k, a, r)], upd_same, by simp, fun y hy => ?_, ?_, h5⟩⟩
  · rcases List.mem_append.mp hy with hy | hy
    · exact ⟨Dp.kpt kp _ _ (tupD_key _) (h3 y hy).1, (h3 y hy).2⟩
    · rw [List.mem_singleton.mp hy]
      exact ⟨Dp.kpt kp _ _ (tupD_key _) hk, hkd⟩
  · refine List.nodup_append.mpr ⟨h4, by simp, fun z hz z' hz' => ?_⟩
    rw [List.mem_singleton.mp hz']
    exact fun e => hn (e ▸ hz)
/-- {k: v} -/
def tSDisp (P : Program) (w : World) (K : PySem.W.Frag) (tk tv : TE) : TE := fun σ H Q => ∀ p, H p = none → tPairs [(tk, tv)] σ (upd H p (.dT [])) fun ps H2 => H2 p = some (.dT []) ∧ ∃ a k y, ps = [(V.ref a, y)] ∧ Dp K H2 (.ref a) (NestedKey.data k) ∧ k.depth ≤ 8 ∧
  ∀ H', But p H2 H' → KpT H2 H' → SnAt P w K H' p [k] → Q (.ref p) H'
theorem pe_sdisp {k v : Expr} {tk tv : TE} {pos : Pos} (hu : X.A.units + 64 < cLine) (hk : PE X k tk) (hv : PE X v tv) : PE X (.Dict [some k] [v] pos) (tSDisp X.prog X.w X.K tk tv) := by
  refine ⟨fun pins s σ H Q I q => ?_⟩
  have hn := I.hok.fresh (Nat.le_refl s.heap.objs.size)
  have I1 := I.laid (a := s.heap.objs.size) (o := .dT []) (h' := s.heap.push { cls := .type "dict", data := .dict #[] }) (t' := s.toks) (fun _ _ q => Heap.get?_push_of_some _ q) (Nat.le_refl _) (dt_empty s.heap I.big)
  have hbig : (s.heap.objs.size == sysModules) = false := beq_eq_false_iff_ne.mpr (Ne.symm (Nat.ne_of_lt I.big))
  have hshape := zip_pairTrees [some k] [v] X.env pos rfl rfl
  rw [arm_eval_Dict, hshape, dictDisplay_pairs (pairTrees [some k] [v] X.env pos) (fun z => nomatch z) (by show 1 < 17; decide)]
  refine wpAny_bind (wpAny_standAt (wpAny_bind (wpAny_subDictH (knd := nestedKind X.prog X.w) (by show X.A.units + 8 < cLine; omega) (by show 1 ≤ 15; decide) (thn ((pps_cons (pos := pos) hk hv pps_nil).run pins _ σ _ _ I1 (q _ hn)) fun ws s2 ⟨ps, H2, I2, rel, e, a, kk, y, ep, hkd, hkl, q2⟩ => ?_))))
  subst ep
  cases rel with
  | @cons x z xs zs r t =>
    cases t
    obtain ⟨z1, z2⟩ := z
    obtain ⟨r1, r2⟩ := r
    cases (show z1 = Value.ref a from r1)
    have D0 : s2.heap.DictOfH (nestedKind X.prog X.w) s.heap.objs.size [] := by
      obtain ⟨_, _, xs, rel, o, es, ep, e1, e2, e3, e4, _⟩ := I2.hok _ _ e
      cases rel
      exact ⟨o, es, ep, e1, e2, e3, e4, fun x hx => (nomatch hx), List.nodup_nil⟩
    refine ⟨[(kk, a, z2)], ⟨rfl, rfl, key_is I2 hkd hkl, trivial⟩, D0, fun h' tk hm' hs' => wpAny_pure ?_⟩
    have e9 : storedAllH [] [(kk, a, z2)] = [(kk, a, z2)] := rfl
    rw [e9] at hm'
    have he : ∃ q, h'.get? s.heap.objs.size = some q := let ⟨o, _, _, e, _⟩ := hm'; ⟨o, e⟩
    have kp : KpT H2 (upd H2 s.heap.objs.size (snO X.prog X.w s.heap.objs.size [(kk, a, z2)])) := KpT.of_but' But.put fun xs z => by
      rcases z with z | ⟨o, z⟩ <;> (rw [e] at z; cases z)
    have I4 : Inv X pins σ (upd H2 s.heap.objs.size (snO X.prog X.w s.heap.objs.size [(kk, a, z2)])) { s2 with heap := h', toks := tk } :=
      I2.write (x := s.heap.objs.size) (e := s.heap.objs.size) (by rw [e]; exact True.intro) (.inl rfl) (fun b q hb z => (hs'.2 b hb).trans z) he (snO_ok hm')
    refine ⟨.ref s.heap.objs.size, _, I4, rfl, q2 _ But.put kp ⟨[(kk, a, z2)], upd_same, rfl, fun y hy => ?_, by simp, hbig⟩⟩
    rw [List.mem_singleton.mp hy]
    exact ⟨Dp.kpt kp _ _ (tupD_key _) hkd, hkl⟩
end
end K26
end
section
set_option Elab.async false
set_option linter.all false
set_option maxRecDepth 100000
set_option maxHeartbeats 400000
/-! FRACTIONS as sixths, rows as data, rows as keys, rows sorted. -/
namespace K26
open PySem

/-! ### FRACTIONS: m stands for m / 6 -/
def gq (m : Int) : Int := (Int.gcd m 6 : Int)
def fq (m : Int) : Int × Int := (m / gq m, 6 / gq m)
theorem gq_dvd6 (m : Int) : gq m ∣ 6 := Int.gcd_dvd_right ..
theorem gq_dvd (m : Int) : gq m ∣ m := Int.gcd_dvd_left ..
theorem gq_pos (m : Int) : 0 < gq m := by
  have : 0 < Int.gcd m 6 := Int.gcd_pos_of_ne_zero_right m (by decide)
  unfold gq
  omega
theorem gq_le (m : Int) : gq m ≤ 6 := Int.le_of_dvd (by decide) (gq_dvd6 m)
theorem fq_top (m : Int) : (fq m).1 * gq m = m := Int.ediv_mul_cancel (gq_dvd m)
theorem fq_bot (m : Int) : (fq m).2 * gq m = 6 := Int.ediv_mul_cancel (gq_dvd6 m)
theorem fq_bot_pos (m : Int) : 0 < (fq m).2 := by
  have h := fq_bot m
  have hg := gq_pos m
  refine Int.not_le.mp fun z => ?_
  have h2 := Int.mul_le_mul_of_nonneg_right z (Int.le_of_lt hg)
  rw [h, Int.zero_mul] at h2
  exact absurd h2 (by decide)
theorem fq_bot_le (m : Int) : (fq m).2 ≤ 6 := by
  have h := fq_bot m
  have hg := gq_pos m
  have hb := fq_bot_pos m
  have : (fq m).2 * 1 ≤ (fq m).2 * gq m := Int.mul_le_mul_of_nonneg_left (by omega) (by omega)
  omega
/-- top * 6 = m * bottom -/
theorem fq_cross (m : Int) : (fq m).1 * 6 = m * (fq m).2 := by
  have h1 := fq_top m
  have h2 := fq_bot m
  calc (fq m).1 * 6 = (fq m).1 * ((fq m).2 * gq m) := by rw [h2]
    _ = ((fq m).1 * gq m) * (fq m).2 := by rw [Int.mul_comm (fq m).2, ← Int.mul_assoc]
    _ = m * (fq m).2 := by rw [h1]
theorem fq_zero : fq 0 = (0, 1) := by decide
theorem fq_inj {m n : Int} (h : fq m = fq n) : m = n := by
  have h1 := fq_cross m
  have h2 := fq_cross n
  rw [h] at h1
  have h3 : m * (fq n).2 = n * (fq n).2 := by rw [← h1, ← h2]
  exact Int.eq_of_mul_eq_mul_right (by have := fq_bot_pos n; omega) h3
theorem fq_top_zero {m : Int} : (fq m).1 = 0 ↔ m = 0 := by
  constructor
  · intro h
    have := fq_top m
    rw [h, Int.zero_mul] at this
    exact this.symm
  · intro h
    rw [h, fq_zero]
theorem fq_top_le (m : Int) : (fq m).1.natAbs ≤ m.natAbs := by
  have h := fq_top m
  have hg := gq_pos m
  have h2 : m.natAbs = (fq m).1.natAbs * (gq m).natAbs := by
    conv => lhs; rw [← h]
    exact Int.natAbs_mul _ _
  rw [h2]
  exact Nat.le_mul_of_pos_right _ (by omega)
/-- a quotient T / B that is m / 6, in lowest terms -/
theorem low_eq {T B m : Int} (hB : 0 < B) (h : T * 6 = m * B) : T / (Int.gcd T B : Int) = (fq m).1 ∧ B / (Int.gcd T B : Int) = (fq m).2 := by
  have hg : 0 < Int.gcd T B := Int.gcd_pos_of_ne_zero_right T (by omega)
  have e1 : Int.gcd (T * 6) (B * 6) = Int.gcd T B * 6 := by
    rw [Int.gcd_mul_right]
    rfl
  have e2 : Int.gcd (m * B) (6 * B) = Int.gcd m 6 * B.natAbs := Int.gcd_mul_right ..
  have e3 : Int.gcd T B * 6 = Int.gcd m 6 * B.natAbs := by
    rw [← e1, ← e2, h, Int.mul_comm B 6]
  have e4 : (Int.gcd T B : Int) * 6 = gq m * B := by
    have : ((Int.gcd T B * 6 : Nat) : Int) = ((Int.gcd m 6 * B.natAbs : Nat) : Int) := congrArg _ e3
    rw [Int.natCast_mul, Int.natCast_mul, Int.natAbs_of_nonneg (by omega)] at this
    exact this
  have hT : T / (Int.gcd T B : Int) * (Int.gcd T B : Int) = T := Int.ediv_mul_cancel (Int.gcd_dvd_left ..)
  have hB2 : B / (Int.gcd T B : Int) * (Int.gcd T B : Int) = B := Int.ediv_mul_cancel (Int.gcd_dvd_right ..)
  have hgI : (0 : Int) < (Int.gcd T B : Int) := by omega
  have h1 := fq_top m
  have h2 := fq_bot m
  have hgm := gq_pos m
  refine ⟨?_, ?_⟩
  · -- (T/G) * G * 6 = m * B ; (fq m).1 * gq m = m ; G * 6 = gq m * B
    have k1 : T / (Int.gcd T B : Int) * (gq m * B) = (fq m).1 * (gq m * B) := by
      calc T / (Int.gcd T B : Int) * (gq m * B) = T / (Int.gcd T B : Int) * ((Int.gcd T B : Int) * 6) := by rw [e4]
        _ = (T / (Int.gcd T B : Int) * (Int.gcd T B : Int)) * 6 := by rw [Int.mul_assoc]
        _ = T * 6 := by rw [hT]
        _ = m * B := h
        _ = ((fq m).1 * gq m) * B := by rw [h1]
        _ = (fq m).1 * (gq m * B) := by rw [Int.mul_assoc]
    exact Int.eq_of_mul_eq_mul_right (by have := Int.mul_pos hgm hB; omega) k1
  · have k1 : B / (Int.gcd T B : Int) * (gq m * B) = (fq m).2 * (gq m * B) := by
      calc B / (Int.gcd T B : Int) * (gq m * B) = B / (Int.gcd T B : Int) * ((Int.gcd T B : Int) * 6) := by rw [e4]
        _ = (B / (Int.gcd T B : Int) * (Int.gcd T B : Int)) * 6 := by rw [Int.mul_assoc]
        _ = B * 6 := by rw [hB2]
        _ = 6 * B := by rw [Int.mul_comm]
        _ = ((fq m).2 * gq m) * B := by rw [h2]
        _ = (fq m).2 * (gq m * B) := by rw [Int.mul_assoc]
    exact Int.eq_of_mul_eq_mul_right (by have := Int.mul_pos hgm hB; omega) k1
/-- the sum of two: over the product of the bottoms -/
theorem sum_cross (a b : Int) : ((fq a).1 * (fq b).2 + (fq b).1 * (fq a).2) * 6 = (a + b) * ((fq a).2 * (fq b).2) := by
  have h1 := fq_cross a
  have h2 := fq_cross b
  rw [Int.add_mul, Int.add_mul]
  congr 1
  · calc (fq a).1 * (fq b).2 * 6 = ((fq a).1 * 6) * (fq b).2 := by rw [Int.mul_assoc, Int.mul_comm (fq b).2, ← Int.mul_assoc]
      _ = a * (fq a).2 * (fq b).2 := by rw [h1]
      _ = a * ((fq a).2 * (fq b).2) := by rw [Int.mul_assoc]
  · calc (fq b).1 * (fq a).2 * 6 = ((fq b).1 * 6) * (fq a).2 := by rw [Int.mul_assoc, Int.mul_comm (fq a).2, ← Int.mul_assoc]
      _ = b * (fq b).2 * (fq a).2 := by rw [h2]
      _ = b * ((fq a).2 * (fq b).2) := by rw [Int.mul_assoc, Int.mul_comm (fq b).2]
theorem gq_neg (m : Int) : gq (-m) = gq m := by
  unfold gq Int.gcd
  rw [Int.natAbs_neg]
theorem fq_neg (m : Int) : fq (-m) = (0 - (fq m).1, (fq m).2) := by
  unfold fq
  rw [gq_neg, Int.neg_ediv_of_dvd (gq_dvd m)]
  simp

/-! ### rows as data, as keys -/
def fD (m : Int) : PyData := .tuple [.int (fq m).1, .int (fq m).2]
def pD (x : Lt) : PyData := .tuple [.int x.1, fD x.2]
def rD (r : Rw) : PyData := .tuple (r.map pD)
def mD (L : List (Int × Int)) : PyData := .tuple (L.map pairI)
def frK (m : Int) : NestedKey := .tup [.num (fq m).1, .num (fq m).2]
def prK (x : Lt) : NestedKey := .tup [.num x.1, frK x.2]
def rowK (r : Rw) : NestedKey := .tup (r.map prK)
theorem prK_data (x : Lt) : (prK x).data = pD x := by simp [prK, frK, pD, fD, NestedKey.data, NestedKey.datas]
theorem prKs_data : ∀ r : Rw, NestedKey.datas (r.map prK) = r.map pD
  | [] => by simp [NestedKey.datas]
  | x :: r => by rw [List.map_cons, List.map_cons, NestedKey.datas, prK_data, prKs_data r]
theorem rowK_data (r : Rw) : (rowK r).data = rD r := by
  unfold rowK rD
  rw [NestedKey.data, prKs_data]
theorem prKs_depth : ∀ r : Rw, NestedKey.depthAll (r.map prK) ≤ 2
  | [] => by simp [NestedKey.depthAll]
  | x :: r => by
    have := prKs_depth r
    simp only [List.map_cons, NestedKey.depthAll, prK, frK, NestedKey.depth]
    omega
theorem rowK_depth (r : Rw) : (rowK r).depth ≤ 8 := by
  have := prKs_depth r
  unfold rowK
  rw [NestedKey.depth]
  omega
theorem prK_inj {x y : Lt} (h : prK x = prK y) : x = y := by
  unfold prK frK at h
  simp only [NestedKey.tup.injEq, List.cons.injEq, NestedKey.num.injEq, and_true] at h
  obtain ⟨h1, h2, h3⟩ := h
  exact Prod.ext h1 (fq_inj (Prod.ext h2 h3))
theorem map_inj {α β : Type} {f : α → β} (hf : ∀ x y, f x = f y → x = y) : ∀ {a b : List α}, a.map f = b.map f → a = b
  | [], [], _ => rfl
  | [], _ :: _, h => by cases h
  | _ :: _, [], h => by cases h
  | x :: a, y :: b, h => by
    obtain ⟨h1, h2⟩ := List.cons.inj h
    rw [hf x y h1, map_inj hf h2]
theorem rowK_inj {r s : Rw} (h : rowK r = rowK s) : r = s := by
  unfold rowK at h
  injection h with h
  exact map_inj (fun x y => prK_inj) h
theorem mem_rowK {r : Rw} {l : List Rw} : rowK r ∈ l.map rowK ↔ r ∈ l := by
  constructor
  · intro h
    obtain ⟨s, hs, e⟩ := List.mem_map.mp h
    rw [← rowK_inj e]
    exact hs
  · exact fun h => List.mem_map.mpr ⟨r, h, rfl⟩
theorem nodup_rowK {l : List Rw} (h : l.Nodup) : (l.map rowK).Nodup := by
  induction l with
  | nil => simp
  | cons x l ih =>
    obtain ⟨h1, h2⟩ := List.nodup_cons.mp h
    rw [List.map_cons]
    exact List.nodup_cons.mpr ⟨fun z => h1 (mem_rowK.mp z), ih h2⟩

/-! ### == of such data -/
theorem tupD_f (m : Int) : tupD (fD m) = true := by simp [fD, tupD, tupDs]
theorem tupD_p (x : Lt) : tupD (pD x) = true := by simp [pD, tupD, tupDs, tupD_f]
theorem tupDs_p : ∀ r : Rw, tupDs (r.map pD) = true
  | [] => by simp [tupDs]
  | x :: r => by rw [List.map_cons, tupDs, tupD_p, tupDs_p r]; rfl
theorem tupD_r (r : Rw) : tupD (rD r) = true := by
  unfold rD
  rw [tupD]
  exact tupDs_p r
theorem tupDs_r : ∀ l : List Rw, tupDs (l.map rD) = true
  | [] => by simp [tupDs]
  | r :: l => by rw [List.map_cons, tupDs, tupD_r, tupDs_r l]; rfl
theorem tupD_pairI (p : Int × Int) : tupD (pairI p) = true := by simp [pairI, tupD, tupDs]
theorem tupDs_pairI : ∀ L : List (Int × Int), tupDs (L.map pairI) = true
  | [] => by simp [tupDs]
  | p :: L => by rw [List.map_cons, tupDs, tupD_pairI, tupDs_pairI L]; rfl
theorem tupD_m (L : List (Int × Int)) : tupD (mD L) = true := by
  unfold mD
  rw [tupD]
  exact tupDs_pairI L
theorem eqv_pairI (p q : Int × Int) : PyData.eqv (pairI p) (pairI q) = decide (p = q) := by
  obtain ⟨a, b⟩ := p
  obtain ⟨a', b'⟩ := q
  simp only [pairI, PyData.eqv, PyData.eqvAll]
  by_cases h1 : a = a' <;> by_cases h2 : b = b' <;> simp [h1, h2]
theorem eqv_f (m n : Int) : PyData.eqv (fD m) (fD n) = decide (m = n) := by
  have h := eqv_pairI (fq m) (fq n)
  have e : PyData.eqv (fD m) (fD n) = PyData.eqv (pairI (fq m)) (pairI (fq n)) := rfl
  rw [e, h]
  by_cases q : m = n
  · rw [q]; simp
  · rw [decide_eq_false q, decide_eq_false fun z => q (fq_inj z)]
theorem eqv_p (x y : Lt) : PyData.eqv (pD x) (pD y) = decide (x = y) := by
  obtain ⟨a, b⟩ := x
  obtain ⟨a', b'⟩ := y
  simp only [pD, PyData.eqv, PyData.eqvAll, eqv_f]
  by_cases h1 : a = a' <;> by_cases h2 : b = b' <;> simp [h1, h2]
theorem eqv_ps : ∀ r s : Rw, PyData.eqvAll (r.map pD) (s.map pD) = decide (r = s)
  | [], [] => by simp [PyData.eqvAll]
  | [], y :: s => by simp [PyData.eqvAll]
  | x :: r, [] => by simp [PyData.eqvAll]
  | x :: r, y :: s => by
    rw [List.map_cons, List.map_cons, PyData.eqvAll, eqv_p, eqv_ps r s]
    by_cases h1 : x = y <;> by_cases h2 : r = s <;> simp [h1, h2]
theorem eqv_r (r s : Rw) : PyData.eqv (rD r) (rD s) = decide (r = s) := by
  unfold rD
  rw [PyData.eqv, eqv_ps]
theorem lay_f (m : Int) : (fD m).canLay0 = true := by simp [fD, PyData.canLay0, PyData.canLayAll0]
theorem lay_ps : ∀ r : Rw, PyData.canLayAll0 (r.map pD) = true
  | [] => by simp [PyData.canLayAll0]
  | x :: r => by rw [List.map_cons, PyData.canLayAll0, lay_ps r]; simp [pD, PyData.canLay0, PyData.canLayAll0, lay_f]
theorem lay_pairs : ∀ L : List (Int × Int), PyData.canLayAll0 (L.map pairI) = true
  | [] => by simp [PyData.canLayAll0]
  | x :: r => by rw [List.map_cons, PyData.canLayAll0, lay_pairs r]; simp [pairI, PyData.canLay0, PyData.canLayAll0]
theorem depth_f (m : Int) : (fD m).depth = 1 := by simp [fD, PyData.depth, PyData.depthAll]
theorem depth_ps : ∀ r : Rw, PyData.depthAll (r.map pD) ≤ 2
  | [] => by simp [PyData.depthAll]
  | x :: r => by
    have := depth_ps r
    have h2 := depth_f x.2
    simp only [List.map_cons, PyData.depthAll, pD, PyData.depth]
    omega
theorem depth_r (r : Rw) : (rD r).depth ≤ 3 := by
  have := depth_ps r
  unfold rD
  rw [PyData.depth]
  omega
theorem shaped_of {d : PyData} (h : d.canLay0 = true) (g : d.depth ≤ 64) : SeqAt.shaped d = true := by
  unfold SeqAt.shaped
  rw [h, decide_eq_true g]
  rfl
theorem shaped_r (r : Rw) : SeqAt.shaped (rD r) = true := shaped_of (by unfold rD; rw [PyData.canLay0]; exact lay_ps r) (by have := depth_r r; omega)
theorem shaped_f (m : Int) : SeqAt.shaped (fD m) = true := shaped_of (lay_f m) (by rw [depth_f]; decide)
theorem shaped_pairI (p : Int × Int) : SeqAt.shaped (pairI p) = true := shaped_of (by simp [pairI, PyData.canLay0, PyData.canLayAll0]) (by simp [pairI, PyData.depth, PyData.depthAll])
theorem shaped_m (L : List (Int × Int)) : SeqAt.shaped (mD L) = true := shaped_of (by unfold mD; rw [PyData.canLay0]; exact lay_pairs L) (by
  have := depth_pairs L
  unfold mD
  rw [PyData.depth]
  omega)
theorem any_pairI (L : List (Int × Int)) (p : Int × Int) : ((L.map pairI).any fun z => PyData.eqv z (pairI p)) = decide (p ∈ L) := by
  rw [List.any_map]
  have e : ((fun z => PyData.eqv z (pairI p)) ∘ pairI) = fun q => decide (q = p) := by
    funext q
    exact eqv_pairI q p
  rw [e]
  by_cases h : p ∈ L
  · rw [decide_eq_true h, List.any_eq_true]
    exact ⟨p, h, by simp⟩
  · rw [decide_eq_false h, List.any_eq_false]
    intro q hq
    simp
    exact fun z => h (z ▸ hq)

/-! ### rows sorted -/
open PySem.W
theorem alike_f (m n : Int) : alike (fD m) (fD n) = true := by simp [fD, alike, alikeAll]
theorem alike_p (x y : Lt) : alike (pD x) (pD y) = true := by simp [pD, alike, alikeAll, alike_f]
theorem alike_ps : ∀ r s : Rw, alikeAll (r.map pD) (s.map pD) = true
  | [], _ => by simp [alikeAll]
  | _ :: _, [] => by simp [alikeAll]
  | x :: r, y :: s => by rw [List.map_cons, List.map_cons, alikeAll, alike_p, alike_ps r s]; rfl
theorem alike_r (r s : Rw) : alike (rD r) (rD s) = true := by
  unfold rD
  rw [alike]
  exact alike_ps r s
/-- the parts and the row -/
def partsD (r : Rw) : PyData := .tuple ((r.map Prod.fst).map .int)
def kD (r : Rw) : PyData := .tuple [partsD r, rD r]
theorem alike_parts (r s : Rw) : alike (partsD r) (partsD s) = true := by
  unfold partsD
  rw [alike]
  exact alike_ints _ _
theorem alike_k (r s : Rw) : alike (kD r) (kD s) = true := by simp [kD, alike, alikeAll, alike_parts, alike_r]
theorem eqvAll_ints : ∀ a b : List Int, PyData.eqvAll (a.map .int) (b.map .int) = decide (a = b)
  | [], [] => by simp [PyData.eqvAll]
  | [], _ :: _ => by simp [PyData.eqvAll]
  | _ :: _, [] => by simp [PyData.eqvAll]
  | x :: a, y :: b => by
    rw [List.map_cons, List.map_cons, PyData.eqvAll, eqvAll_ints a b]
    by_cases h1 : x = y <;> by_cases h2 : a = b <;> simp [h1, h2, PyData.eqv]
theorem eqv_parts (r s : Rw) : PyData.eqv (partsD r) (partsD s) = decide (r.map Prod.fst = s.map Prod.fst) := by
  unfold partsD
  rw [PyData.eqv, eqvAll_ints]
theorem toks_inj {x y : PyData} (h : alike x y = true) (e : keyToks x = keyToks y) : PyData.eqv x y = true := by
  cases q : PyData.eqv x y with
  | true => rfl
  | false =>
    have h1 := (toks_eqv x y h).2 q [] [Sum.inl 0]
    rw [e, lex_pre, PyProof.Rows.lex_irrefl] at h1
    cases h1
theorem lt_tri {x y : PyData} (h : alike x y = true) (h1 : dataLt x y = false) (h2 : dataLt y x = false) : PyData.eqv x y = true :=
  toks_inj h (PyProof.Rows.lex_total _ _ h1 h2)
theorem lt_parts (r s : Rw) : dataLt (partsD r) (partsD s) = decide (r.map Prod.fst < s.map Prod.fst) := by
  unfold partsD
  rw [dataLt_tuple]
  exact dataLt_ints _ _
theorem lt_k (r s : Rw) : dataLt (kD r) (kD s) = if r.map Prod.fst = s.map Prod.fst then (if r = s then false else dataLt (rD r) (rD s)) else decide (r.map Prod.fst < s.map Prod.fst) := by
  unfold kD
  rw [dataLt_pair (alike_parts r s) (alike_r r s), eqv_parts, eqv_r, lt_parts]
  by_cases h1 : r.map Prod.fst = s.map Prod.fst
  · rw [decide_eq_true h1, if_pos rfl, if_pos h1]
    by_cases h2 : r = s
    · rw [decide_eq_true h2, if_pos rfl, if_pos h2]
    · rw [decide_eq_false h2, if_neg Bool.false_ne_true, if_neg h2]
  · rw [decide_eq_false h1, if_neg Bool.false_ne_true, if_neg h1]
def leD (x y : PyData) : Bool := dataLe false id x y
theorem leD_total : TotalLe leD := ⟨fun a b c => (sortLe_total (PyProof.Rows.listOrd PyProof.Rows.itemOrd) false fun b : PyData => keyToks (id b)).trans a b c, fun a b => (sortLe_total (PyProof.Rows.listOrd PyProof.Rows.itemOrd) false fun b : PyData => keyToks (id b)).total a b⟩
def srt (enc : Rw → PyData) (l : List Rw) : List Rw := l.mergeSort fun a b => leD (enc a) (enc b)
theorem srt_map (enc : Rw → PyData) (l : List Rw) : (srt enc l).map enc = (l.map enc).mergeSort (dataLe false id) := sort_maps enc fun _ _ _ _ => rfl
theorem srt_perm (enc : Rw → PyData) (l : List Rw) : (srt enc l).Perm l := List.mergeSort_perm _ _
theorem srt_pair (enc : Rw → PyData) (l : List Rw) : (srt enc l).Pairwise fun a b => leD (enc a) (enc b) = true :=
  sort_pairwise (le := fun a b => leD (enc a) (enc b)) ⟨fun a b c => leD_total.trans _ _ _, fun a b => leD_total.total _ _⟩ l
theorem leD_lt (x y : PyData) : leD x y = !dataLt y x := rfl
/-- two rows of one place in the order are one -/
theorem leD_anti {r s : Rw} (h1 : leD (rD r) (rD s) = true) (h2 : leD (rD s) (rD r) = true) : r = s := by
  rw [leD_lt, Bool.not_eq_true'] at h1 h2
  have h := lt_tri (alike_r r s) h2 h1
  rw [eqv_r] at h
  exact of_decide_eq_true h
theorem pairwise_perm_eq {α : Type} {le : α → α → Bool} (anti : ∀ x y, le x y = true → le y x = true → x = y) : ∀ {a b : List α}, a.Perm b → a.Pairwise (fun x y => le x y = true) → b.Pairwise (fun x y => le x y = true) → a = b
  | [], b, p, _, _ => p.nil_eq
  | x :: a, [], p, _, _ => absurd p.length_eq (by simp)
  | x :: a, y :: b, p, ha, hb => by
    obtain ⟨ha1, ha2⟩ := List.pairwise_cons.mp ha
    obtain ⟨hb1, hb2⟩ := List.pairwise_cons.mp hb
    have hx : x = y := by
      rcases List.mem_cons.mp (p.mem_iff.mp List.mem_cons_self) with h | h
      · exact h
      · rcases List.mem_cons.mp (p.mem_iff.mpr List.mem_cons_self) with g | g
        · exact g.symm
        · exact anti x y (ha1 y g) (hb1 x h)
    subst hx
    rw [pairwise_perm_eq anti p.cons_inv ha2 hb2]
theorem srt_eq {a b : List Rw} (p : a.Perm b) : srt rD a = srt rD b :=
  pairwise_perm_eq (le := fun x y => leD (rD x) (rD y)) (fun x y => leD_anti) ((srt_perm rD a).trans (p.trans (srt_perm rD b).symm)) (srt_pair rD a) (srt_pair rD b)
theorem perm_of_mem {a b : List Rw} (ha : a.Nodup) (hb : b.Nodup) (h : ∀ x, x ∈ a ↔ x ∈ b) : a.Perm b := by
  refine List.perm_iff_count.mpr fun x => ?_
  have h1 := List.nodup_iff_count.mp ha x
  have h2 := List.nodup_iff_count.mp hb x
  have h3 := List.count_pos_iff (a := x) (l := a)
  have h4 := List.count_pos_iff (a := x) (l := b)
  by_cases hx : x ∈ a
  · have h5 := h3.mpr hx
    have h6 := h4.mpr ((h x).mp hx)
    omega
  · have h5 : ¬ 0 < a.count x := fun z => hx (h3.mp z)
    have h6 : ¬ 0 < b.count x := fun z => hx ((h x).mpr (h4.mp z))
    omega
/-- the least by the parts comes first -/
theorem srt_head {l : List Rw} {n : Rw} (hn : n ∈ l) (h : ∀ s ∈ l, ¬ s.map Prod.fst < n.map Prod.fst) (g : ∀ s ∈ l, s.map Prod.fst = n.map Prod.fst → s = n) : ∃ t, srt kD l = n :: t := by
  have p := srt_perm kD l
  have w := srt_pair kD l
  cases e : srt kD l with
  | nil =>
    rw [e] at p
    have := p.nil_eq
    subst this
    cases hn
  | cons x t =>
    rw [e] at p w
    have hx : x ∈ l := p.mem_iff.mp List.mem_cons_self
    have hnx : n ∈ x :: t := p.mem_iff.mpr hn
    rcases List.mem_cons.mp hnx with q | q
    · exact ⟨t, by rw [q]⟩
    · have h1 := (List.pairwise_cons.mp w).1 n q
      rw [leD_lt, Bool.not_eq_true', lt_k] at h1
      by_cases hp : n.map Prod.fst = x.map Prod.fst
      · exact ⟨t, by rw [g x hx hp.symm]⟩
      · rw [if_neg hp] at h1
        have h2 := of_decide_eq_false h1
        exact absurd (parts_eq h2 (h x hx)) hp
end K26
end
section
set_option Elab.async false
set_option linter.all false
set_option maxRecDepth 100000
set_option maxHeartbeats 400000
/-! The text by places, the defs' scopes, what the head tells of them. Printed by gen_ta.py. -/
namespace K26
open PySem PySem.Spec PyProof.Rows L2
def top (i : Nat) : Stmt := PySem.Challenge.pw_everychange_k26_whole_rows_whose_parts_g.main.body.getD i (.Pass ⟨0, 0, 0, 0⟩)
abbrev FnP (K : PySem.W.Frag) (x : Str) (st : Stmt) (f : Addr) (fd : FuncData) : Prop := FunD K x x (defArgs st) (defBody st) (defScope st) [] [] f fd
abbrev sTupleOf : Stmt := top 2
abbrev nTupleOf : List Str := ["thing", "part"]
theorem scTupleOf : FnScope nTupleOf ["thing"] (defScope sTupleOf) := ⟨rfl, rfl, rfl, by decide +kernel, rfl, by decide +kernel, by decide +kernel⟩
abbrev sFraction : Stmt := top 6
abbrev nFraction : List Str := ["top", "bottom", "common"]
theorem scFraction : FnScope nFraction ["top", "bottom"] (defScope sFraction) := ⟨rfl, rfl, rfl, by decide +kernel, rfl, by decide +kernel, by decide +kernel⟩
abbrev sPlus : Stmt := top 7
abbrev nPlus : List Str := ["x", "y"]
theorem scPlus : FnScope nPlus ["x", "y"] (defScope sPlus) := ⟨rfl, rfl, rfl, by decide +kernel, rfl, by decide +kernel, by decide +kernel⟩
abbrev sGoTogether : Stmt := top 10
abbrev nGoTogether : List Str := ["one", "two", "meets"]
theorem scGoTogether : FnScope nGoTogether ["one", "two", "meets"] (defScope sGoTogether) := ⟨rfl, rfl, rfl, by decide +kernel, rfl, by decide +kernel, by decide +kernel⟩
abbrev sPlaceToMeet : Stmt := top 11
abbrev nPlaceToMeet : List Str := ["pairs", "part", "meets", "place"]
theorem scPlaceToMeet : FnScope nPlaceToMeet ["pairs", "part", "meets"] (defScope sPlaceToMeet) := ⟨rfl, rfl, rfl, by decide +kernel, rfl, by decide +kernel, by decide +kernel⟩
abbrev sShortened : Stmt := top 12
abbrev nShortened : List Str := ["row", "meets", "pairs", "part", "much", "place", "sum_of"]
theorem scShortened : FnScope nShortened ["row", "meets"] (defScope sShortened) := ⟨rfl, rfl, rfl, by decide +kernel, rfl, by decide +kernel, by decide +kernel⟩
abbrev sNormalRow : Stmt := top 13
abbrev nNormalRow : List Str := ["row"]
theorem scNormalRow : FnScope nNormalRow ["row"] (defScope sNormalRow) := ⟨rfl, rfl, rfl, by decide +kernel, rfl, by decide +kernel, by decide +kernel⟩
abbrev sIsSame : Stmt := top 14
abbrev nIsSame : List Str := ["row", "other"]
theorem scIsSame : FnScope nIsSame ["row", "other"] (defScope sIsSame) := ⟨rfl, rfl, rfl, by decide +kernel, rfl, by decide +kernel, by decide +kernel⟩
abbrev sFirstPlaces : Stmt := top 15
abbrev nFirstPlaces : List Str := ["pairs", "meets", "found", "place", "part", "_", "other"]
theorem scFirstPlaces : FnScope nFirstPlaces ["pairs", "meets"] (defScope sFirstPlaces) := ⟨rfl, rfl, rfl, by decide +kernel, rfl, by decide +kernel, by decide +kernel⟩
abbrev sLeastOrder : Stmt := top 16
abbrev nLeastOrder : List Str := ["pairs", "meets", "left", "found", "place"]
theorem scLeastOrder : FnScope nLeastOrder ["pairs", "meets"] (defScope sLeastOrder) := ⟨rfl, rfl, rfl, by decide +kernel, rfl, by decide +kernel, by decide +kernel⟩
abbrev sNormalWith : Stmt := top 17
abbrev nNormalWith : List Str := ["row", "meets", "known"]
theorem scNormalWith : FnScope nNormalWith ["row", "meets"] (defScope sNormalWith) := ⟨rfl, rfl, rfl, by decide +kernel, rfl, by decide +kernel, by decide +kernel⟩
abbrev sIsSameWith : Stmt := top 18
abbrev nIsSameWith : List Str := ["row", "other", "meets"]
theorem scIsSameWith : FnScope nIsSameWith ["row", "other", "meets"] (defScope sIsSameWith) := ⟨rfl, rfl, rfl, by decide +kernel, rfl, by decide +kernel, by decide +kernel⟩
abbrev sLBox : Stmt := top 20
abbrev nLBox : List Str := ["_law_script", "_law_k", "_law_bit_so"]
theorem scLBox : FnScope nLBox ["_law_script", "_law_k"] (defScope sLBox) := ⟨rfl, rfl, rfl, by decide +kernel, rfl, by decide +kernel, by decide +kernel⟩
abbrev sLTake : Stmt := top 21
abbrev nLTake : List Str := ["_law_urn", "_law_low_so", "_law_drawn", "_law_once", "_law_far", "_law_twice"]
theorem scLTake : FnScope nLTake ["_law_urn", "_law_low_so"] (defScope sLTake) := ⟨rfl, rfl, rfl, by decide +kernel, rfl, by decide +kernel, by decide +kernel⟩
abbrev sLCells : Stmt := top 22
abbrev nLCells : List Str := ["_law_script", "_law_roof_so", "_law_bits_so", "_law_k", "_law_bit_so", "_law_at_so"]
theorem scLCells : FnScope nLCells ["_law_script", "_law_roof_so"] (defScope sLCells) := ⟨rfl, rfl, rfl, by decide +kernel, rfl, by decide +kernel, by decide +kernel⟩
abbrev sLSame : Stmt := top 23
abbrev nLSame : List Str := ["_law_near", "_law_due", "_law_far", "_law_own"]
theorem scLSame : FnScope nLSame ["_law_near", "_law_due"] (defScope sLSame) := ⟨rfl, rfl, rfl, by decide +kernel, rfl, by decide +kernel, by decide +kernel⟩
abbrev sLLow : Stmt := top 24
abbrev nLLow : List Str := ["_law_top_so", "_law_down_so", "_law_near", "_law_far"]
theorem scLLow : FnScope nLLow ["_law_top_so", "_law_down_so"] (defScope sLLow) := ⟨rfl, rfl, rfl, by decide +kernel, rfl, by decide +kernel, by decide +kernel⟩
abbrev sLAdd : Stmt := top 25
abbrev nLAdd : List Str := ["_law_own", "_law_far"]
theorem scLAdd : FnScope nLAdd ["_law_own", "_law_far"] (defScope sLAdd) := ⟨rfl, rfl, rfl, by decide +kernel, rfl, by decide +kernel, by decide +kernel⟩
abbrev sLMuch : Stmt := top 26
abbrev nLMuch : List Str := ["_law_urn"]
theorem scLMuch : FnScope nLMuch ["_law_urn"] (defScope sLMuch) := ⟨rfl, rfl, rfl, by decide +kernel, rfl, by decide +kernel, by decide +kernel⟩
abbrev sLFlows : Stmt := top 27
abbrev nLFlows : List Str := ["_law_urn", "_law_wide_so", "_law_most_so", "_law_k"]
theorem scLFlows : FnScope nLFlows ["_law_urn", "_law_wide_so", "_law_most_so"] (defScope sLFlows) := ⟨rfl, rfl, rfl, by decide +kernel, rfl, by decide +kernel, by decide +kernel⟩
abbrev sLUndone : Stmt := top 28
abbrev nLUndone : List Str := ["_law_flows_so", "_law_one_so", "_law_far"]
theorem scLUndone : FnScope nLUndone ["_law_flows_so"] (defScope sLUndone) := ⟨rfl, rfl, rfl, by decide +kernel, rfl, by decide +kernel, by decide +kernel⟩
abbrev sLFree : Stmt := top 29
abbrev nLFree : List Str := ["_law_one_so", "_law_two_so", "_law_lets_so"]
theorem scLFree : FnScope nLFree ["_law_one_so", "_law_two_so", "_law_lets_so"] (defScope sLFree) := ⟨rfl, rfl, rfl, by decide +kernel, rfl, by decide +kernel, by decide +kernel⟩
abbrev sLLets : Stmt := top 30
abbrev nLLets : List Str := ["_law_urn", "_law_wide_so", "_law_found", "_law_j", "_law_k"]
theorem scLLets : FnScope nLLets ["_law_urn", "_law_wide_so"] (defScope sLLets) := ⟨rfl, rfl, rfl, by decide +kernel, rfl, by decide +kernel, by decide +kernel⟩
abbrev sLTurns : Stmt := top 31
abbrev nLTurns : List Str := ["_law_flows_so", "_law_lets_so", "_law_found", "_law_k", "_law_one_so", "_law_two_so"]
theorem scLTurns : FnScope nLTurns ["_law_flows_so", "_law_lets_so"] (defScope sLTurns) := ⟨rfl, rfl, rfl, by decide +kernel, rfl, by decide +kernel, by decide +kernel⟩
abbrev sLReached : Stmt := top 32
abbrev nLReached : List Str := ["_law_flows_so", "_law_lets_so", "_law_found", "_law_last_so", "_law_seen_so", "_law_next_so", "_law_own", "_law_far"]
theorem scLReached : FnScope nLReached ["_law_flows_so", "_law_lets_so"] (defScope sLReached) := ⟨rfl, rfl, rfl, by decide +kernel, rfl, by decide +kernel, by decide +kernel⟩
abbrev sLShortest : Stmt := top 33
abbrev nLShortest : List Str := ["_law_flows_so", "_law_lets_so", "_law_lot_so", "_law_size_so", "_law_short_so", "_law_own", "_law_far"]
theorem scLShortest : FnScope nLShortest ["_law_flows_so", "_law_lets_so"] (defScope sLShortest) := ⟨rfl, rfl, rfl, by decide +kernel, rfl, by decide +kernel, by decide +kernel⟩
abbrev sLDrawnTurns : Stmt := top 34
abbrev nLDrawnTurns : List Str := ["_law_urn", "_law_flows_so", "_law_lets_so", "_law_lap", "_law_lot_so"]
theorem scLDrawnTurns : FnScope nLDrawnTurns ["_law_urn", "_law_flows_so", "_law_lets_so"] (defScope sLDrawnTurns) := ⟨rfl, rfl, rfl, by decide +kernel, rfl, by decide +kernel, by decide +kernel⟩
abbrev sLCaseRight : Stmt := top 35
abbrev nLCaseRight : List Str := ["_law_urn", "_law_flows_so", "_law_lets_so", "_law_short_so", "_law_own", "_law_there_so", "_law_heard_so", "_law_due", "_law_back_so", "_law_far"]
theorem scLCaseRight : FnScope nLCaseRight ["_law_urn", "_law_flows_so", "_law_lets_so"] (defScope sLCaseRight) := ⟨rfl, rfl, rfl, by decide +kernel, rfl, by decide +kernel, by decide +kernel⟩
abbrev sLByHandRight : Stmt := top 36
abbrev nLByHandRight : List Str := ["_law_one", "_law_half", "_law_back", "_law_none", "_law_three", "_law_heard_so", "_law_due", "_law_wait_so"]
theorem scLByHandRight : FnScope nLByHandRight [] (defScope sLByHandRight) := ⟨rfl, rfl, rfl, by decide +kernel, rfl, by decide +kernel, by decide +kernel⟩
abbrev sLRight : Stmt := top 37
abbrev nLRight : List Str := ["_law_urn", "_law_flows_so", "_law_lets_so", "_law_other_so", "_law_same_so", "_law_full_so", "_law_all_so", "_law_heard_so"]
theorem scLRight : FnScope nLRight ["_law_urn"] (defScope sLRight) := ⟨rfl, rfl, rfl, by decide +kernel, rfl, by decide +kernel, by decide +kernel⟩
abbrev sLaw : Stmt := top 38
abbrev nLaw : List Str := ["_law_script", "_law_cells_so", "_law_k"]
theorem scLaw : FnScope nLaw ["_law_script"] (defScope sLaw) := ⟨rfl, rfl, rfl, by decide +kernel, rfl, by decide +kernel, by decide +kernel⟩
/-! ### what the head tells -/
def dTupleOf : He.DefD := ⟨("tuple_of", none), "tuple_of", "tuple_of", defArgs sTupleOf, defBody sTupleOf, defScope sTupleOf, [], []⟩
def dFraction : He.DefD := ⟨("fraction", none), "fraction", "fraction", defArgs sFraction, defBody sFraction, defScope sFraction, [], []⟩
def dPlus : He.DefD := ⟨("plus", none), "plus", "plus", defArgs sPlus, defBody sPlus, defScope sPlus, [], []⟩
def dGoTogether : He.DefD := ⟨("go_together", none), "go_together", "go_together", defArgs sGoTogether, defBody sGoTogether, defScope sGoTogether, [], []⟩
def dPlaceToMeet : He.DefD := ⟨("place_to_meet", none), "place_to_meet", "place_to_meet", defArgs sPlaceToMeet, defBody sPlaceToMeet, defScope sPlaceToMeet, [], []⟩
def dShortened : He.DefD := ⟨("shortened", none), "shortened", "shortened", defArgs sShortened, defBody sShortened, defScope sShortened, [], []⟩
def dNormalRow : He.DefD := ⟨("normal_row", none), "normal_row", "normal_row", defArgs sNormalRow, defBody sNormalRow, defScope sNormalRow, [], []⟩
def dIsSame : He.DefD := ⟨("is_same", none), "is_same", "is_same", defArgs sIsSame, defBody sIsSame, defScope sIsSame, [], []⟩
def dFirstPlaces : He.DefD := ⟨("first_places", none), "first_places", "first_places", defArgs sFirstPlaces, defBody sFirstPlaces, defScope sFirstPlaces, [], []⟩
def dLeastOrder : He.DefD := ⟨("least_order", none), "least_order", "least_order", defArgs sLeastOrder, defBody sLeastOrder, defScope sLeastOrder, [], []⟩
def dNormalWith : He.DefD := ⟨("normal_with", none), "normal_with", "normal_with", defArgs sNormalWith, defBody sNormalWith, defScope sNormalWith, [], []⟩
def dIsSameWith : He.DefD := ⟨("is_same_with", none), "is_same_with", "is_same_with", defArgs sIsSameWith, defBody sIsSameWith, defScope sIsSameWith, [], []⟩
def dLBox : He.DefD := ⟨("_law_box", none), "_law_box", "_law_box", defArgs sLBox, defBody sLBox, defScope sLBox, [], []⟩
def dLTake : He.DefD := ⟨("_law_take", none), "_law_take", "_law_take", defArgs sLTake, defBody sLTake, defScope sLTake, [], []⟩
def dLCells : He.DefD := ⟨("_law_cells", none), "_law_cells", "_law_cells", defArgs sLCells, defBody sLCells, defScope sLCells, [], []⟩
def dLSame : He.DefD := ⟨("_law_same", none), "_law_same", "_law_same", defArgs sLSame, defBody sLSame, defScope sLSame, [], []⟩
def dLLow : He.DefD := ⟨("_law_low", none), "_law_low", "_law_low", defArgs sLLow, defBody sLLow, defScope sLLow, [], []⟩
def dLAdd : He.DefD := ⟨("_law_add", none), "_law_add", "_law_add", defArgs sLAdd, defBody sLAdd, defScope sLAdd, [], []⟩
def dLMuch : He.DefD := ⟨("_law_much", none), "_law_much", "_law_much", defArgs sLMuch, defBody sLMuch, defScope sLMuch, [], []⟩
def dLFlows : He.DefD := ⟨("_law_flows", none), "_law_flows", "_law_flows", defArgs sLFlows, defBody sLFlows, defScope sLFlows, [], []⟩
def dLUndone : He.DefD := ⟨("_law_undone", none), "_law_undone", "_law_undone", defArgs sLUndone, defBody sLUndone, defScope sLUndone, [], []⟩
def dLFree : He.DefD := ⟨("_law_free", none), "_law_free", "_law_free", defArgs sLFree, defBody sLFree, defScope sLFree, [], []⟩
def dLLets : He.DefD := ⟨("_law_lets", none), "_law_lets", "_law_lets", defArgs sLLets, defBody sLLets, defScope sLLets, [], []⟩
def dLTurns : He.DefD := ⟨("_law_turns", none), "_law_turns", "_law_turns", defArgs sLTurns, defBody sLTurns, defScope sLTurns, [], []⟩
def dLReached : He.DefD := ⟨("_law_reached", none), "_law_reached", "_law_reached", defArgs sLReached, defBody sLReached, defScope sLReached, [], []⟩
def dLShortest : He.DefD := ⟨("_law_shortest", none), "_law_shortest", "_law_shortest", defArgs sLShortest, defBody sLShortest, defScope sLShortest, [], []⟩
def dLDrawnTurns : He.DefD := ⟨("_law_drawn_turns", none), "_law_drawn_turns", "_law_drawn_turns", defArgs sLDrawnTurns, defBody sLDrawnTurns, defScope sLDrawnTurns, [], []⟩
def dLCaseRight : He.DefD := ⟨("_law_case_right", none), "_law_case_right", "_law_case_right", defArgs sLCaseRight, defBody sLCaseRight, defScope sLCaseRight, [], []⟩
def dLByHandRight : He.DefD := ⟨("_law_by_hand_right", none), "_law_by_hand_right", "_law_by_hand_right", defArgs sLByHandRight, defBody sLByHandRight, defScope sLByHandRight, [], []⟩
def dLRight : He.DefD := ⟨("_law_right", none), "_law_right", "_law_right", defArgs sLRight, defBody sLRight, defScope sLRight, [], []⟩
def dLaw : He.DefD := ⟨("law", none), "law", "law", defArgs sLaw, defBody sLaw, defScope sLaw, [], []⟩
def fnAll : List He.DefD := [dTupleOf, dFraction, dPlus, dGoTogether, dPlaceToMeet, dShortened, dNormalRow, dIsSame, dFirstPlaces, dLeastOrder, dNormalWith, dIsSameWith, dLBox, dLTake, dLCells, dLSame, dLLow, dLAdd, dLMuch, dLFlows, dLUndone, dLFree, dLLets, dLTurns, dLReached, dLShortest, dLDrawnTurns, dLCaseRight, dLByHandRight, dLRight, dLaw]
def faAll : List He.Fa := [.glo "tuple_of", .glo "fraction", .glo "plus", .glo "go_together", .glo "place_to_meet", .glo "shortened", .glo "normal_row", .glo "is_same", .glo "first_places", .glo "least_order", .glo "normal_with", .glo "is_same_with", .glo "_law_box", .glo "_law_take", .glo "_law_cells", .glo "_law_same", .glo "_law_low", .glo "_law_add", .glo "_law_much", .glo "_law_flows", .glo "_law_undone", .glo "_law_free", .glo "_law_lets", .glo "_law_turns", .glo "_law_reached", .glo "_law_shortest", .glo "_law_drawn_turns", .glo "_law_case_right", .glo "_law_by_hand_right", .glo "_law_right", .glo "law", .free "isinstance", .free "list", .free "tuple", .free "reversed", .free "range", .free "len", .free "min", .free "max", .free "enumerate", .free "all", .free "abs", .free "int", .free "bool", .free "str", .free "zip", .free "sorted", .glo "NONE"]
/-- NONE is (0, 1); gcd is math's -/
def exB (K : PySem.W.Frag) : Bool := He.tupB K "NONE" [.int 0, .int 1] && He.eqO (PySem.W.nsIn K mainGlobals "gcd") (some (some (.builtin "math.gcd")))
end K26
end
section
set_option Elab.async false
set_option linter.all false
set_option maxRecDepth 100000
set_option maxHeartbeats 400000
/-! The facts of the head, by name. Printed by gen_ta.py. -/
namespace K26
open PySem PySem.Spec PyProof.Rows L2
/-- where the defs stand, what is still built in -/
structure Tx (K : PySem.W.Frag) (mg : Str → Option Value) where
  fTupleOf : Addr
  fdTupleOf : FuncData
  gTupleOf : mg "tuple_of" = some (.ref fTupleOf)
  FTupleOf : FnP K "tuple_of" sTupleOf fTupleOf fdTupleOf
  fFraction : Addr
  fdFraction : FuncData
  gFraction : mg "fraction" = some (.ref fFraction)
  FFraction : FnP K "fraction" sFraction fFraction fdFraction
  fPlus : Addr
  fdPlus : FuncData
  gPlus : mg "plus" = some (.ref fPlus)
  FPlus : FnP K "plus" sPlus fPlus fdPlus
  fGoTogether : Addr
  fdGoTogether : FuncData
  gGoTogether : mg "go_together" = some (.ref fGoTogether)
  FGoTogether : FnP K "go_together" sGoTogether fGoTogether fdGoTogether
  fPlaceToMeet : Addr
  fdPlaceToMeet : FuncData
  gPlaceToMeet : mg "place_to_meet" = some (.ref fPlaceToMeet)
  FPlaceToMeet : FnP K "place_to_meet" sPlaceToMeet fPlaceToMeet fdPlaceToMeet
  fShortened : Addr
  fdShortened : FuncData
  gShortened : mg "shortened" = some (.ref fShortened)
  FShortened : FnP K "shortened" sShortened fShortened fdShortened
  fNormalRow : Addr
  fdNormalRow : FuncData
  gNormalRow : mg "normal_row" = some (.ref fNormalRow)
  FNormalRow : FnP K "normal_row" sNormalRow fNormalRow fdNormalRow
  fIsSame : Addr
  fdIsSame : FuncData
  gIsSame : mg "is_same" = some (.ref fIsSame)
  FIsSame : FnP K "is_same" sIsSame fIsSame fdIsSame
  fFirstPlaces : Addr
  fdFirstPlaces : FuncData
  gFirstPlaces : mg "first_places" = some (.ref fFirstPlaces)
  FFirstPlaces : FnP K "first_places" sFirstPlaces fFirstPlaces fdFirstPlaces
  fLeastOrder : Addr
  fdLeastOrder : FuncData
  gLeastOrder : mg "least_order" = some (.ref fLeastOrder)
  FLeastOrder : FnP K "least_order" sLeastOrder fLeastOrder fdLeastOrder
  fNormalWith : Addr
  fdNormalWith : FuncData
  gNormalWith : mg "normal_with" = some (.ref fNormalWith)
  FNormalWith : FnP K "normal_with" sNormalWith fNormalWith fdNormalWith
  fIsSameWith : Addr
  fdIsSameWith : FuncData
  gIsSameWith : mg "is_same_with" = some (.ref fIsSameWith)
  FIsSameWith : FnP K "is_same_with" sIsSameWith fIsSameWith fdIsSameWith
  fLBox : Addr
  fdLBox : FuncData
  gLBox : mg "_law_box" = some (.ref fLBox)
  FLBox : FnP K "_law_box" sLBox fLBox fdLBox
  fLTake : Addr
  fdLTake : FuncData
  gLTake : mg "_law_take" = some (.ref fLTake)
  FLTake : FnP K "_law_take" sLTake fLTake fdLTake
  fLCells : Addr
  fdLCells : FuncData
  gLCells : mg "_law_cells" = some (.ref fLCells)
  FLCells : FnP K "_law_cells" sLCells fLCells fdLCells
  fLSame : Addr
  fdLSame : FuncData
  gLSame : mg "_law_same" = some (.ref fLSame)
  FLSame : FnP K "_law_same" sLSame fLSame fdLSame
  fLLow : Addr
  fdLLow : FuncData
  gLLow : mg "_law_low" = some (.ref fLLow)
  FLLow : FnP K "_law_low" sLLow fLLow fdLLow
  fLAdd : Addr
  fdLAdd : FuncData
  gLAdd : mg "_law_add" = some (.ref fLAdd)
  FLAdd : FnP K "_law_add" sLAdd fLAdd fdLAdd
  fLMuch : Addr
  fdLMuch : FuncData
  gLMuch : mg "_law_much" = some (.ref fLMuch)
  FLMuch : FnP K "_law_much" sLMuch fLMuch fdLMuch
  fLFlows : Addr
  fdLFlows : FuncData
  gLFlows : mg "_law_flows" = some (.ref fLFlows)
  FLFlows : FnP K "_law_flows" sLFlows fLFlows fdLFlows
  fLUndone : Addr
  fdLUndone : FuncData
  gLUndone : mg "_law_undone" = some (.ref fLUndone)
  FLUndone : FnP K "_law_undone" sLUndone fLUndone fdLUndone
  fLFree : Addr
  fdLFree : FuncData
  gLFree : mg "_law_free" = some (.ref fLFree)
  FLFree : FnP K "_law_free" sLFree fLFree fdLFree
  fLLets : Addr
  fdLLets : FuncData
  gLLets : mg "_law_lets" = some (.ref fLLets)
  FLLets : FnP K "_law_lets" sLLets fLLets fdLLets
  fLTurns : Addr
  fdLTurns : FuncData
  gLTurns : mg "_law_turns" = some (.ref fLTurns)
  FLTurns : FnP K "_law_turns" sLTurns fLTurns fdLTurns
  fLReached : Addr
  fdLReached : FuncData
  gLReached : mg "_law_reached" = some (.ref fLReached)
  FLReached : FnP K "_law_reached" sLReached fLReached fdLReached
  fLShortest : Addr
  fdLShortest : FuncData
  gLShortest : mg "_law_shortest" = some (.ref fLShortest)
  FLShortest : FnP K "_law_shortest" sLShortest fLShortest fdLShortest
  fLDrawnTurns : Addr
  fdLDrawnTurns : FuncData
  gLDrawnTurns : mg "_law_drawn_turns" = some (.ref fLDrawnTurns)
  FLDrawnTurns : FnP K "_law_drawn_turns" sLDrawnTurns fLDrawnTurns fdLDrawnTurns
  fLCaseRight : Addr
  fdLCaseRight : FuncData
  gLCaseRight : mg "_law_case_right" = some (.ref fLCaseRight)
  FLCaseRight : FnP K "_law_case_right" sLCaseRight fLCaseRight fdLCaseRight
  fLByHandRight : Addr
  fdLByHandRight : FuncData
  gLByHandRight : mg "_law_by_hand_right" = some (.ref fLByHandRight)
  FLByHandRight : FnP K "_law_by_hand_right" sLByHandRight fLByHandRight fdLByHandRight
  fLRight : Addr
  fdLRight : FuncData
  gLRight : mg "_law_right" = some (.ref fLRight)
  FLRight : FnP K "_law_right" sLRight fLRight fdLRight
  fLaw : Addr
  fdLaw : FuncData
  gLaw : mg "law" = some (.ref fLaw)
  FLaw : FnP K "law" sLaw fLaw fdLaw
  b_isinstance : mg "isinstance" = none
  b_list : mg "list" = none
  b_tuple : mg "tuple" = none
  b_reversed : mg "reversed" = none
  b_range : mg "range" = none
  b_len : mg "len" = none
  b_min : mg "min" = none
  b_max : mg "max" = none
  b_enumerate : mg "enumerate" = none
  b_all : mg "all" = none
  b_abs : mg "abs" = none
  b_int : mg "int" = none
  b_bool : mg "bool" = none
  b_str : mg "str" = none
  b_zip : mg "zip" = none
  b_sorted : mg "sorted" = none
  aNone : Addr
  gNone : mg "NONE" = some (.ref aNone)
  tNone : ∀ H, SqT K H aNone [.int 0, .int 1]
  gGcd : mg "gcd" = some (.builtin "math.gcd")
section
variable {K : PySem.W.Frag} {mg : Str → Option Value}
theorem Tx.bTupleOf (T : Tx K mg) : Binds K T.fdTupleOf ["thing"] [] := T.FTupleOf.bindsN fun _ _ _ _ _ _ us hl => match us, hl with | [_], _ => rfl
theorem Tx.bFraction (T : Tx K mg) : Binds K T.fdFraction ["top", "bottom"] [] := T.FFraction.bindsN fun _ _ _ _ _ _ us hl => match us, hl with | [_, _], _ => rfl
theorem Tx.bPlus (T : Tx K mg) : Binds K T.fdPlus ["x", "y"] [] := T.FPlus.bindsN fun _ _ _ _ _ _ us hl => match us, hl with | [_, _], _ => rfl
theorem Tx.bGoTogether (T : Tx K mg) : Binds K T.fdGoTogether ["one", "two", "meets"] [] := T.FGoTogether.bindsN fun _ _ _ _ _ _ us hl => match us, hl with | [_, _, _], _ => rfl
theorem Tx.bPlaceToMeet (T : Tx K mg) : Binds K T.fdPlaceToMeet ["pairs", "part", "meets"] [] := T.FPlaceToMeet.bindsN fun _ _ _ _ _ _ us hl => match us, hl with | [_, _, _], _ => rfl
theorem Tx.bShortened (T : Tx K mg) : Binds K T.fdShortened ["row", "meets"] [] := T.FShortened.bindsN fun _ _ _ _ _ _ us hl => match us, hl with | [_, _], _ => rfl
theorem Tx.bNormalRow (T : Tx K mg) : Binds K T.fdNormalRow ["row"] [] := T.FNormalRow.bindsN fun _ _ _ _ _ _ us hl => match us, hl with | [_], _ => rfl
theorem Tx.bIsSame (T : Tx K mg) : Binds K T.fdIsSame ["row", "other"] [] := T.FIsSame.bindsN fun _ _ _ _ _ _ us hl => match us, hl with | [_, _], _ => rfl
theorem Tx.bFirstPlaces (T : Tx K mg) : Binds K T.fdFirstPlaces ["pairs", "meets"] [] := T.FFirstPlaces.bindsN fun _ _ _ _ _ _ us hl => match us, hl with | [_, _], _ => rfl
theorem Tx.bLeastOrder (T : Tx K mg) : Binds K T.fdLeastOrder ["pairs", "meets"] [] := T.FLeastOrder.bindsN fun _ _ _ _ _ _ us hl => match us, hl with | [_, _], _ => rfl
theorem Tx.bNormalWith (T : Tx K mg) : Binds K T.fdNormalWith ["row", "meets"] [] := T.FNormalWith.bindsN fun _ _ _ _ _ _ us hl => match us, hl with | [_, _], _ => rfl
theorem Tx.bIsSameWith (T : Tx K mg) : Binds K T.fdIsSameWith ["row", "other", "meets"] [] := T.FIsSameWith.bindsN fun _ _ _ _ _ _ us hl => match us, hl with | [_, _, _], _ => rfl
theorem Tx.bLBox (T : Tx K mg) : Binds K T.fdLBox ["_law_script", "_law_k"] [] := T.FLBox.bindsN fun _ _ _ _ _ _ us hl => match us, hl with | [_, _], _ => rfl
theorem Tx.bLTake (T : Tx K mg) : Binds K T.fdLTake ["_law_urn", "_law_low_so"] [] := T.FLTake.bindsN fun _ _ _ _ _ _ us hl => match us, hl with | [_, _], _ => rfl
theorem Tx.bLCells (T : Tx K mg) : Binds K T.fdLCells ["_law_script", "_law_roof_so"] [] := T.FLCells.bindsN fun _ _ _ _ _ _ us hl => match us, hl with | [_, _], _ => rfl
theorem Tx.bLSame (T : Tx K mg) : Binds K T.fdLSame ["_law_near", "_law_due"] [] := T.FLSame.bindsN fun _ _ _ _ _ _ us hl => match us, hl with | [_, _], _ => rfl
theorem Tx.bLLow (T : Tx K mg) : Binds K T.fdLLow ["_law_top_so", "_law_down_so"] [] := T.FLLow.bindsN fun _ _ _ _ _ _ us hl => match us, hl with | [_, _], _ => rfl
theorem Tx.bLAdd (T : Tx K mg) : Binds K T.fdLAdd ["_law_own", "_law_far"] [] := T.FLAdd.bindsN fun _ _ _ _ _ _ us hl => match us, hl with | [_, _], _ => rfl
theorem Tx.bLMuch (T : Tx K mg) : Binds K T.fdLMuch ["_law_urn"] [] := T.FLMuch.bindsN fun _ _ _ _ _ _ us hl => match us, hl with | [_], _ => rfl
theorem Tx.bLFlows (T : Tx K mg) : Binds K T.fdLFlows ["_law_urn", "_law_wide_so", "_law_most_so"] [] := T.FLFlows.bindsN fun _ _ _ _ _ _ us hl => match us, hl with | [_, _, _], _ => rfl
theorem Tx.bLUndone (T : Tx K mg) : Binds K T.fdLUndone ["_law_flows_so"] [] := T.FLUndone.bindsN fun _ _ _ _ _ _ us hl => match us, hl with | [_], _ => rfl
theorem Tx.bLFree (T : Tx K mg) : Binds K T.fdLFree ["_law_one_so", "_law_two_so", "_law_lets_so"] [] := T.FLFree.bindsN fun _ _ _ _ _ _ us hl => match us, hl with | [_, _, _], _ => rfl
theorem Tx.bLLets (T : Tx K mg) : Binds K T.fdLLets ["_law_urn", "_law_wide_so"] [] := T.FLLets.bindsN fun _ _ _ _ _ _ us hl => match us, hl with | [_, _], _ => rfl
theorem Tx.bLTurns (T : Tx K mg) : Binds K T.fdLTurns ["_law_flows_so", "_law_lets_so"] [] := T.FLTurns.bindsN fun _ _ _ _ _ _ us hl => match us, hl with | [_, _], _ => rfl
theorem Tx.bLReached (T : Tx K mg) : Binds K T.fdLReached ["_law_flows_so", "_law_lets_so"] [] := T.FLReached.bindsN fun _ _ _ _ _ _ us hl => match us, hl with | [_, _], _ => rfl
theorem Tx.bLShortest (T : Tx K mg) : Binds K T.fdLShortest ["_law_flows_so", "_law_lets_so"] [] := T.FLShortest.bindsN fun _ _ _ _ _ _ us hl => match us, hl with | [_, _], _ => rfl
theorem Tx.bLDrawnTurns (T : Tx K mg) : Binds K T.fdLDrawnTurns ["_law_urn", "_law_flows_so", "_law_lets_so"] [] := T.FLDrawnTurns.bindsN fun _ _ _ _ _ _ us hl => match us, hl with | [_, _, _], _ => rfl
theorem Tx.bLCaseRight (T : Tx K mg) : Binds K T.fdLCaseRight ["_law_urn", "_law_flows_so", "_law_lets_so"] [] := T.FLCaseRight.bindsN fun _ _ _ _ _ _ us hl => match us, hl with | [_, _, _], _ => rfl
theorem Tx.bLByHandRight (T : Tx K mg) : Binds K T.fdLByHandRight [] [] := T.FLByHandRight.bindsN fun _ _ _ _ _ _ us hl => match us, hl with | [], _ => rfl
theorem Tx.bLRight (T : Tx K mg) : Binds K T.fdLRight ["_law_urn"] [] := T.FLRight.bindsN fun _ _ _ _ _ _ us hl => match us, hl with | [_], _ => rfl
theorem Tx.bLaw (T : Tx K mg) : Binds K T.fdLaw ["_law_script"] [] := T.FLaw.bindsN fun _ _ _ _ _ _ us hl => match us, hl with | [_], _ => rfl
theorem tx_of {h : Heap} (X : K.In h) (G : h.Ns mainGlobals mg) (c : He.SaysD faAll fnAll K) (e : exB K = true) : Nonempty (Tx K mg) := by
  obtain ⟨fd0, F0⟩ := c.def_ 0 (d := dTupleOf) rfl
  obtain ⟨fd1, F1⟩ := c.def_ 1 (d := dFraction) rfl
  obtain ⟨fd2, F2⟩ := c.def_ 2 (d := dPlus) rfl
  obtain ⟨fd3, F3⟩ := c.def_ 3 (d := dGoTogether) rfl
  obtain ⟨fd4, F4⟩ := c.def_ 4 (d := dPlaceToMeet) rfl
  obtain ⟨fd5, F5⟩ := c.def_ 5 (d := dShortened) rfl
  obtain ⟨fd6, F6⟩ := c.def_ 6 (d := dNormalRow) rfl
  obtain ⟨fd7, F7⟩ := c.def_ 7 (d := dIsSame) rfl
  obtain ⟨fd8, F8⟩ := c.def_ 8 (d := dFirstPlaces) rfl
  obtain ⟨fd9, F9⟩ := c.def_ 9 (d := dLeastOrder) rfl
  obtain ⟨fd10, F10⟩ := c.def_ 10 (d := dNormalWith) rfl
  obtain ⟨fd11, F11⟩ := c.def_ 11 (d := dIsSameWith) rfl
  obtain ⟨fd12, F12⟩ := c.def_ 12 (d := dLBox) rfl
  obtain ⟨fd13, F13⟩ := c.def_ 13 (d := dLTake) rfl
  obtain ⟨fd14, F14⟩ := c.def_ 14 (d := dLCells) rfl
  obtain ⟨fd15, F15⟩ := c.def_ 15 (d := dLSame) rfl
  obtain ⟨fd16, F16⟩ := c.def_ 16 (d := dLLow) rfl
  obtain ⟨fd17, F17⟩ := c.def_ 17 (d := dLAdd) rfl
  obtain ⟨fd18, F18⟩ := c.def_ 18 (d := dLMuch) rfl
  obtain ⟨fd19, F19⟩ := c.def_ 19 (d := dLFlows) rfl
  obtain ⟨fd20, F20⟩ := c.def_ 20 (d := dLUndone) rfl
  obtain ⟨fd21, F21⟩ := c.def_ 21 (d := dLFree) rfl
  obtain ⟨fd22, F22⟩ := c.def_ 22 (d := dLLets) rfl
  obtain ⟨fd23, F23⟩ := c.def_ 23 (d := dLTurns) rfl
  obtain ⟨fd24, F24⟩ := c.def_ 24 (d := dLReached) rfl
  obtain ⟨fd25, F25⟩ := c.def_ 25 (d := dLShortest) rfl
  obtain ⟨fd26, F26⟩ := c.def_ 26 (d := dLDrawnTurns) rfl
  obtain ⟨fd27, F27⟩ := c.def_ 27 (d := dLCaseRight) rfl
  obtain ⟨fd28, F28⟩ := c.def_ 28 (d := dLByHandRight) rfl
  obtain ⟨fd29, F29⟩ := c.def_ 29 (d := dLRight) rfl
  obtain ⟨fd30, F30⟩ := c.def_ 30 (d := dLaw) rfl
  obtain ⟨e1, e2⟩ := He.ba e
  exact ⟨{
    fTupleOf := _
    fdTupleOf := fd0
    gTupleOf := He.glo_ok X G (c.fact 0 (f := .glo "tuple_of") rfl)
    FTupleOf := F0
    fFraction := _
    fdFraction := fd1
    gFraction := He.glo_ok X G (c.fact 1 (f := .glo "fraction") rfl)
    FFraction := F1
    fPlus := _
    fdPlus := fd2
    gPlus := He.glo_ok X G (c.fact 2 (f := .glo "plus") rfl)
    FPlus := F2
    fGoTogether := _
    fdGoTogether := fd3
    gGoTogether := He.glo_ok X G (c.fact 3 (f := .glo "go_together") rfl)
    FGoTogether := F3
    fPlaceToMeet := _
    fdPlaceToMeet := fd4
    gPlaceToMeet := He.glo_ok X G (c.fact 4 (f := .glo "place_to_meet") rfl)
    FPlaceToMeet := F4
    fShortened := _
    fdShortened := fd5
    gShortened := He.glo_ok X G (c.fact 5 (f := .glo "shortened") rfl)
    FShortened := F5
    fNormalRow := _
    fdNormalRow := fd6
    gNormalRow := He.glo_ok X G (c.fact 6 (f := .glo "normal_row") rfl)
    FNormalRow := F6
    fIsSame := _
    fdIsSame := fd7
    gIsSame := He.glo_ok X G (c.fact 7 (f := .glo "is_same") rfl)
    FIsSame := F7
    fFirstPlaces := _
    fdFirstPlaces := fd8
    gFirstPlaces := He.glo_ok X G (c.fact 8 (f := .glo "first_places") rfl)
    FFirstPlaces := F8
    fLeastOrder := _
    fdLeastOrder := fd9
    gLeastOrder := He.glo_ok X G (c.fact 9 (f := .glo "least_order") rfl)
    FLeastOrder := F9
    fNormalWith := _
    fdNormalWith := fd10
    gNormalWith := He.glo_ok X G (c.fact 10 (f := .glo "normal_with") rfl)
    FNormalWith := F10
    fIsSameWith := _
    fdIsSameWith := fd11
    gIsSameWith := He.glo_ok X G (c.fact 11 (f := .glo "is_same_with") rfl)
    FIsSameWith := F11
    fLBox := _
    fdLBox := fd12
    gLBox := He.glo_ok X G (c.fact 12 (f := .glo "_law_box") rfl)
    FLBox := F12
    fLTake := _
    fdLTake := fd13
    gLTake := He.glo_ok X G (c.fact 13 (f := .glo "_law_take") rfl)
    FLTake := F13
    fLCells := _
    fdLCells := fd14
    gLCells := He.glo_ok X G (c.fact 14 (f := .glo "_law_cells") rfl)
    FLCells := F14
    fLSame := _
    fdLSame := fd15
    gLSame := He.glo_ok X G (c.fact 15 (f := .glo "_law_same") rfl)
    FLSame := F15
    fLLow := _
    fdLLow := fd16
    gLLow := He.glo_ok X G (c.fact 16 (f := .glo "_law_low") rfl)
    FLLow := F16
    fLAdd := _
    fdLAdd := fd17
    gLAdd := He.glo_ok X G (c.fact 17 (f := .glo "_law_add") rfl)
    FLAdd := F17
    fLMuch := _
    fdLMuch := fd18
    gLMuch := He.glo_ok X G (c.fact 18 (f := .glo "_law_much") rfl)
    FLMuch := F18
    fLFlows := _
    fdLFlows := fd19
    gLFlows := He.glo_ok X G (c.fact 19 (f := .glo "_law_flows") rfl)
    FLFlows := F19
    fLUndone := _
    fdLUndone := fd20
    gLUndone := He.glo_ok X G (c.fact 20 (f := .glo "_law_undone") rfl)
    FLUndone := F20
    fLFree := _
    fdLFree := fd21
    gLFree := He.glo_ok X G (c.fact 21 (f := .glo "_law_free") rfl)
    FLFree := F21
    fLLets := _
    fdLLets := fd22
    gLLets := He.glo_ok X G (c.fact 22 (f := .glo "_law_lets") rfl)
    FLLets := F22
    fLTurns := _
    fdLTurns := fd23
    gLTurns := He.glo_ok X G (c.fact 23 (f := .glo "_law_turns") rfl)
    FLTurns := F23
    fLReached := _
    fdLReached := fd24
    gLReached := He.glo_ok X G (c.fact 24 (f := .glo "_law_reached") rfl)
    FLReached := F24
    fLShortest := _
    fdLShortest := fd25
    gLShortest := He.glo_ok X G (c.fact 25 (f := .glo "_law_shortest") rfl)
    FLShortest := F25
    fLDrawnTurns := _
    fdLDrawnTurns := fd26
    gLDrawnTurns := He.glo_ok X G (c.fact 26 (f := .glo "_law_drawn_turns") rfl)
    FLDrawnTurns := F26
    fLCaseRight := _
    fdLCaseRight := fd27
    gLCaseRight := He.glo_ok X G (c.fact 27 (f := .glo "_law_case_right") rfl)
    FLCaseRight := F27
    fLByHandRight := _
    fdLByHandRight := fd28
    gLByHandRight := He.glo_ok X G (c.fact 28 (f := .glo "_law_by_hand_right") rfl)
    FLByHandRight := F28
    fLRight := _
    fdLRight := fd29
    gLRight := He.glo_ok X G (c.fact 29 (f := .glo "_law_right") rfl)
    FLRight := F29
    fLaw := _
    fdLaw := fd30
    gLaw := He.glo_ok X G (c.fact 30 (f := .glo "law") rfl)
    FLaw := F30
    b_isinstance := He.free_ok X G (c.fact 31 (f := .free "isinstance") rfl)
    b_list := He.free_ok X G (c.fact 32 (f := .free "list") rfl)
    b_tuple := He.free_ok X G (c.fact 33 (f := .free "tuple") rfl)
    b_reversed := He.free_ok X G (c.fact 34 (f := .free "reversed") rfl)
    b_range := He.free_ok X G (c.fact 35 (f := .free "range") rfl)
    b_len := He.free_ok X G (c.fact 36 (f := .free "len") rfl)
    b_min := He.free_ok X G (c.fact 37 (f := .free "min") rfl)
    b_max := He.free_ok X G (c.fact 38 (f := .free "max") rfl)
    b_enumerate := He.free_ok X G (c.fact 39 (f := .free "enumerate") rfl)
    b_all := He.free_ok X G (c.fact 40 (f := .free "all") rfl)
    b_abs := He.free_ok X G (c.fact 41 (f := .free "abs") rfl)
    b_int := He.free_ok X G (c.fact 42 (f := .free "int") rfl)
    b_bool := He.free_ok X G (c.fact 43 (f := .free "bool") rfl)
    b_str := He.free_ok X G (c.fact 44 (f := .free "str") rfl)
    b_zip := He.free_ok X G (c.fact 45 (f := .free "zip") rfl)
    b_sorted := He.free_ok X G (c.fact 46 (f := .free "sorted") rfl)
    aNone := _
    gNone := He.glo_ok X G (c.fact 47 (f := .glo "NONE") rfl)
    tNone := fun H => He.tupB_ok e1 H
    gGcd := PySem.W.mg_of X G (He.eqO_ok e2) }⟩
end
end K26
end
section
set_option Elab.async false
set_option linter.all false
set_option maxRecDepth 100000
set_option maxHeartbeats 0
/-! What the head's fragment is asked. -/
namespace K26
open PySem PySem.Spec PyProof.Rows L2
def obsKF (K : PySem.W.Frag) : He.AlD := (exB K && ((faAll.all fun f => f.ok K) && fnAll.all fun d => d.ok K), fnAll.map fun d => He.fnW K d.at_)
def obsK (g : Addr → Option Obj) : He.AlD := obsKF (He.frG g (He.asD g 3))
theorem obsKF_ok {K : PySem.W.Frag} (e : obsKF K = He.valD fnAll) : He.SaysD faAll fnAll K ∧ exB K = true := by
  have e1 : (exB K && ((faAll.all fun f => f.ok K) && fnAll.all fun d => d.ok K)) = true := congrArg (fun z : He.AlD => z.1) e
  have e2 : (fnAll.map fun d => He.fnW K d.at_) = fnAll.map He.DefD.val := congrArg (fun z : He.AlD => z.2) e
  obtain ⟨h1, h2⟩ := He.ba e1
  refine ⟨?_, h1⟩
  show (((faAll.all fun f => f.ok K) && fnAll.all fun d => d.ok K), fnAll.map fun d => He.fnW K d.at_) = (true, fnAll.map He.DefD.val)
  rw [h2, e2]
end K26
end
section
set_option Elab.async false
set_option linter.all false
set_option maxRecDepth 100000
set_option maxHeartbeats 400000
/-! Bounds of rows; which parts go together; places; lists as the program reads them. -/
namespace K26
open PySem

/-! ### how great the FRACTIONS of a row are -/
def mass (r : Rw) : Nat := (r.map fun x => x.2.natAbs).sum
theorem mass_nil : mass [] = 0 := rfl
theorem mass_cons (x : Lt) (r : Rw) : mass (x :: r) = x.2.natAbs + mass r := by unfold mass; rw [List.map_cons, List.sum_cons]
theorem mass_append (r s : Rw) : mass (r ++ s) = mass r + mass s := by unfold mass; rw [List.map_append, List.sum_append]
theorem mass_reverse (r : Rw) : mass r.reverse = mass r := by
  induction r with
  | nil => rfl
  | cons x r ih => rw [List.reverse_cons, mass_append, ih, mass_cons, mass_cons, mass_nil]; omega
theorem mass_mem {x : Lt} {r : Rw} (h : x ∈ r) : x.2.natAbs ≤ mass r := by
  induction r with
  | nil => cases h
  | cons y r ih =>
    rw [mass_cons]
    rcases List.mem_cons.mp h with rfl | h
    · omega
    · have := ih h
      omega
theorem mass_le {r : Rw} {b : Nat} (h : ∀ x ∈ r, x.2.natAbs ≤ b) : mass r ≤ r.length * b := by
  induction r with
  | nil => simp [mass_nil]
  | cons y r ih =>
    rw [mass_cons, List.length_cons, Nat.succ_mul]
    have := h y List.mem_cons_self
    have := ih fun x hx => h x (List.mem_cons_of_mem _ hx)
    omega
section
variable {c : Int → Int → Bool}
theorem Tn.mass {r s : Rw} (h : Tn c r s) : K26.mass s ≤ K26.mass r := by
  cases h with
  | zero A p B => rw [mass_append, mass_append, mass_cons]; omega
  | join A p a b B =>
    rw [mass_append, mass_append, mass_cons, mass_cons, mass_cons]
    have : (a + b).natAbs ≤ a.natAbs + b.natAbs := Int.natAbs_add_le a b
    simp only
    omega
  | swap A p a q b B hc => rw [mass_append, mass_append, mass_cons, mass_cons, mass_cons, mass_cons]; omega
theorem Rch.mass {r s : Rw} (h : Rch c r s) : K26.mass s ≤ K26.mass r := by
  induction h with
  | refl => exact Nat.le_refl _
  | tail _ e ih => exact Nat.le_trans e.mass ih
theorem mass_spl (R : Rw) (p : Int) : (spl c R p).1.natAbs + mass (spl c R p).2 ≤ mass R := by
  cases e : take1 c R p with
  | none => rw [spl_none e]; simp
  | some z =>
    obtain ⟨b, R'⟩ := z
    rw [spl_some e]
    obtain ⟨A, B, rfl, rfl, _⟩ := take1_split e
    rw [mass_append, mass_append, mass_cons]
    simp only
    omega
theorem mass_cons0 (x : Lt) (R : Rw) : mass (cons0 x R) ≤ x.2.natAbs + mass R := by
  unfold cons0
  split
  · omega
  · rw [mass_cons]; omega
theorem mass_stp (R : Rw) (x : Lt) : mass (stp c R x) ≤ mass R + x.2.natAbs := by
  unfold stp
  have h1 := mass_spl (c := c) R x.1
  have h2 := mass_cons0 (x.1, (spl c R x.1).1 + x.2) (spl c R x.1).2
  have h3 : ((spl c R x.1).1 + x.2).natAbs ≤ (spl c R x.1).1.natAbs + x.2.natAbs := Int.natAbs_add_le _ _
  simp only at h2
  omega
theorem mass_fold : ∀ (r R : Rw), mass (r.foldl (stp c) R) ≤ mass R + mass r
  | [], R => by simp [mass_nil]
  | x :: r, R => by
    have h1 := mass_stp (c := c) R x
    have h2 := mass_fold r (stp c R x)
    rw [List.foldl_cons, mass_cons]
    omega
theorem mass_sR (r : Rw) : mass (sR c r) ≤ mass r := by
  have := mass_fold (c := c) r []
  rw [mass_nil] at this
  unfold sR
  omega
theorem sR_take (r : Rw) (i : Nat) {x : Lt} (h : r[i]? = some x) : sR c (r.take (i + 1)) = stp c (sR c (r.take i)) x := by
  unfold sR
  rw [List.take_add_one, h, List.foldl_append]
  rfl
end
theorem mass_take (r : Rw) (i : Nat) : mass (r.take i) ≤ mass r := by
  conv => rhs; rw [← List.take_append_drop i r, mass_append]
  omega
theorem mass_inv (r : Rw) : mass (inv r) = mass r := by
  unfold inv
  have h : mass (r.reverse.map fun x => (x.1, -x.2)) = mass r.reverse := by
    unfold mass
    rw [List.map_map]
    congr 1
    apply List.map_congr_left
    intro x _
    simp
  rw [h, mass_reverse]

/-! ### which parts go together -/
def mnx (p q : Int) : Int × Int := (if q < p then q else p, if q > p then q else p)
def fr (L : List (Int × Int)) (p q : Int) : Bool := decide (mnx p q ∈ L)
theorem mnx_comm (p q : Int) : mnx p q = mnx q p := by
  unfold mnx
  by_cases h1 : q < p
  · have h2 : ¬ p < q := by omega
    have h3 : ¬ q > p := by omega
    have h4 : p > q := by omega
    rw [if_pos h1, if_neg h3, if_neg h2, if_pos h4]
  · by_cases h2 : p < q
    · have h3 : q > p := by omega
      have h4 : ¬ p > q := by omega
      rw [if_neg h1, if_pos h3, if_pos h2, if_neg h4]
    · have : p = q := by omega
      subst this
      rfl
/-- no part with itself -/
def Prop1 (L : List (Int × Int)) : Prop := ∀ p, (p, p) ∉ L
theorem fr_com {L : List (Int × Int)} (h : Prop1 L) : Com (fr L) where
  sy p q := by unfold fr; rw [mnx_comm]
  ir p := by
    unfold fr
    have e : mnx p p = (p, p) := by
      unfold mnx
      rw [if_neg (Int.lt_irrefl p)]
    rw [e]
    exact decide_eq_false (h p)
theorem fr_nil : fr [] = fun _ _ => false := by
  funext p q
  unfold fr
  exact decide_eq_false (by simp)
theorem fr_mono {L M : List (Int × Int)} (h : ∀ p ∈ L, p ∈ M) (p q : Int) (e : fr L p q = true) : fr M p q = true := by
  unfold fr at e ⊢
  exact decide_eq_true (h _ (of_decide_eq_true e))
theorem prop1_of {L : List (Int × Int)} (h : ∀ p ∈ L, p.1 < p.2) : Prop1 L := fun p hp => by
  have := h _ hp
  simp at this

/-! ### places -/
section
variable {c : Int → Int → Bool}
def okAt (c : Int → Int → Bool) (P : Rw) (k : Nat) : Bool := match P[k]? with
  | some x => (P.take k).all fun y => c x.1 y.1
  | none => false
def plTo (c : Int → Int → Bool) (P : Rw) (n : Nat) : List Nat := (List.range n).filter (okAt c P)
def plAll (c : Int → Int → Bool) (P : Rw) : List Nat := plTo c P P.length
theorem plTo_succ (P : Rw) (n : Nat) : plTo c P (n + 1) = plTo c P n ++ (if okAt c P n = true then [n] else []) := by
  unfold plTo
  rw [List.range_succ, List.filter_append]
  by_cases h : okAt c P n = true
  · rw [if_pos h, List.filter_cons_of_pos h]
    rfl
  · rw [if_neg h, List.filter_cons_of_neg h]
    rfl
theorem plTo_len (P : Rw) (n : Nat) : (plTo c P n).length ≤ n := by
  unfold plTo
  have := List.length_filter_le (okAt c P) (List.range n)
  rw [List.length_range] at this
  exact this
theorem okAt_take (C : Com c) {P : Rw} {k : Nat} {x : Lt} (hx : P[k]? = some x) (h : okAt c P k = true) : take1 c P x.1 = some (x.2, P.eraseIdx k) := by
  unfold okAt at h
  rw [hx] at h
  have h1 := List.all_eq_true.mp h
  have e := split_at hx
  have e2 : P.eraseIdx k = P.take k ++ P.drop (k + 1) := List.eraseIdx_eq_take_drop_succ P k
  rw [e2]
  conv => lhs; rw [e]
  exact take1_app C fun y hy => by rw [C.sy]; exact h1 y hy
theorem take_okAt (C : Com c) {P P' : Rw} {p b : Int} (h : take1 c P p = some (b, P')) : ∃ k, P[k]? = some (p, b) ∧ okAt c P k = true := by
  obtain ⟨A, B, rfl, rfl, h1⟩ := take1_split h
  have e : (A ++ (p, b) :: B)[A.length]? = some (p, b) := by simp
  refine ⟨A.length, e, ?_⟩
  unfold okAt
  rw [e]
  refine List.all_eq_true.mpr fun y hy => ?_
  have : y ∈ A := by simpa using hy
  rw [C.sy]
  exact h1 y this
theorem mem_plAll {P : Rw} {k : Nat} : k ∈ plAll c P ↔ k < P.length ∧ okAt c P k = true := by
  unfold plAll plTo
  rw [List.mem_filter, List.mem_range]
theorem plAll_ne (C : Com c) {P : Rw} (h : P ≠ []) : plAll c P ≠ [] := fun e => by
  cases P with
  | nil => exact h rfl
  | cons x P =>
    have : 0 ∈ plAll c (x :: P) := mem_plAll.mpr ⟨by simp, by simp [okAt]⟩
    rw [e] at this
    cases this
/-- one turn of the least order, by a place whose part is least -/
theorem lOrd_at (C : Com c) {P : Rw} {k : Nat} {x : Lt} (hk : k ∈ plAll c P) (hx : P[k]? = some x) (hl : ∀ j y, j ∈ plAll c P → P[j]? = some y → x.1 ≤ y.1) : lOrd c P = x :: lOrd c (P.eraseIdx k) := by
  have h1 := okAt_take C hx (mem_plAll.mp hk).2
  refine lOrd_step h1 fun q z hq => ?_
  obtain ⟨b, P'⟩ := z
  obtain ⟨j, hj, ho⟩ := take_okAt C hq
  exact hl j (q, b) (mem_plAll.mpr ⟨(List.getElem?_eq_some_iff.mp hj).1, ho⟩) hj
/-! the last one of a part that can be brought behind all -/
def PlaceIs (c : Int → Int → Bool) (P : Rw) (p : Int) : Option Nat → Prop
  | none => take1 c P.reverse p = none
  | some k => ∃ b, P[k]? = some (p, b) ∧ take1 c P.reverse p = some (b, (P.eraseIdx k).reverse)
theorem place_found (C : Com c) {P : Rw} {k : Nat} {p b : Int} (hk : P[k]? = some (p, b)) (h : ∀ y ∈ P.drop (k + 1), c y.1 p = true) : PlaceIs c P p (some k) := by
  refine ⟨b, hk, ?_⟩
  have e := split_at hk
  have e2 : P.eraseIdx k = P.take k ++ P.drop (k + 1) := List.eraseIdx_eq_take_drop_succ P k
  rw [e2]
  conv => lhs; rw [e]
  rw [List.reverse_append, List.reverse_cons, List.append_assoc, List.reverse_append]
  exact take1_app C fun y hy => h y (List.mem_reverse.mp hy)
theorem place_stop (C : Com c) {P : Rw} {k : Nat} {x : Lt} {p : Int} (hk : P[k]? = some x) (hx : x.1 ≠ p) (hc : c x.1 p = false) (h : ∀ y ∈ P.drop (k + 1), c y.1 p = true) : PlaceIs c P p none := by
  show take1 c P.reverse p = none
  have e := split_at hk
  rw [e, List.reverse_append, List.reverse_cons, List.append_assoc]
  exact take1_app_no C hx hc fun y hy => h y (List.mem_reverse.mp hy)
theorem place_out (C : Com c) {P : Rw} {p : Int} (h : ∀ y ∈ P, c y.1 p = true) : PlaceIs c P p none := take1_all_no C fun y hy => h y (List.mem_reverse.mp hy)
/-- how a shortest row takes one more pair -/
theorem stp_none {R : Rw} {x : Lt} (h : PlaceIs c R.reverse x.1 none) : (stp c R x).reverse = if x.2 = 0 then R.reverse else R.reverse ++ [x] := by
  have h1 : take1 c R x.1 = none := by
    have : take1 c R.reverse.reverse x.1 = none := h
    rwa [List.reverse_reverse] at this
  unfold stp
  rw [spl_none h1]
  simp only [Int.zero_add]
  unfold cons0
  by_cases e : x.2 = 0
  · simp [e]
  · simp [e]
theorem stp_some {R : Rw} {x y : Lt} {k : Nat} (h : PlaceIs c R.reverse x.1 (some k)) (hk : R.reverse[k]? = some y) : (stp c R x).reverse = if y.2 + x.2 = 0 then R.reverse.eraseIdx k else R.reverse.eraseIdx k ++ [(x.1, y.2 + x.2)] := by
  obtain ⟨b, h1, h2⟩ := h
  rw [List.reverse_reverse] at h2
  rw [h1] at hk
  cases hk
  unfold stp
  rw [spl_some h2]
  simp only
  unfold cons0
  by_cases e : b + x.2 = 0
  · simp [e]
  · simp [e]
end

/-! ### data with tuples in the place of lists -/
mutual
def tupd : PyData → PyData
  | .none => .none
  | .bool b => .bool b
  | .int i => .int i
  | .str x => .str x
  | .list ds => .tuple (tupds ds)
  | .tuple ds => .tuple (tupds ds)
  | .dict kvs => .dict kvs
def tupds : List PyData → List PyData
  | [] => []
  | d :: ds => tupd d :: tupds ds
end
mutual
/-- no dict within, no sequence of more than a thousand -/
def okD : PyData → Bool
  | .list ds => decide (ds.length ≤ 1000) && okDs ds
  | .tuple ds => decide (ds.length ≤ 1000) && okDs ds
  | .dict _ => false
  | .none => true
  | .bool _ => true
  | .int _ => true
  | .str _ => true
def okDs : List PyData → Bool
  | [] => true
  | d :: ds => okD d && okDs ds
end
theorem okDs_get {ds : List PyData} : ∀ {i : Nat} {d : PyData}, okDs ds = true → ds[i]? = some d → okD d = true := by
  induction ds with
  | nil => intro i d _ h; simp at h
  | cons x ds ih =>
    intro i d h e
    unfold okDs at h
    obtain ⟨h1, h2⟩ := Bool.and_eq_true_iff.mp h
    cases i with
    | zero =>
      simp at e
      subst e
      exact h1
    | succ i => exact ih h2 (by simpa using e)
theorem okD_tup {ds : List PyData} (h : okD (.tuple ds) = true) : ds.length ≤ 1000 ∧ okDs ds = true := by
  unfold okD at h
  obtain ⟨h1, h2⟩ := Bool.and_eq_true_iff.mp h
  exact ⟨of_decide_eq_true h1, h2⟩
theorem okD_lst {ds : List PyData} (h : okD (.list ds) = true) : ds.length ≤ 1000 ∧ okDs ds = true := by
  unfold okD at h
  obtain ⟨h1, h2⟩ := Bool.and_eq_true_iff.mp h
  exact ⟨of_decide_eq_true h1, h2⟩
theorem okDs_of {ds : List PyData} (h : ∀ d ∈ ds, okD d = true) : okDs ds = true := by
  induction ds with
  | nil => simp [okDs]
  | cons x ds ih =>
    rw [okDs, h x List.mem_cons_self, ih fun d hd => h d (List.mem_cons_of_mem _ hd)]
    rfl
theorem okD_tup_of {ds : List PyData} (hl : ds.length ≤ 1000) (h : ∀ d ∈ ds, okD d = true) : okD (.tuple ds) = true := by
  rw [okD, decide_eq_true hl, okDs_of h]
  rfl
theorem okD_lst_of {ds : List PyData} (hl : ds.length ≤ 1000) (h : ∀ d ∈ ds, okD d = true) : okD (.list ds) = true := by
  rw [okD, decide_eq_true hl, okDs_of h]
  rfl
theorem tupds_map : ∀ ds : List PyData, tupds ds = ds.map tupd
  | [] => by simp [tupds]
  | d :: ds => by rw [tupds, tupds_map ds, List.map_cons]
mutual
theorem tupD_tupd : ∀ d : PyData, okD d = true → tupD (tupd d) = true
  | .none, _ => by simp [tupd, tupD]
  | .bool _, _ => by simp [tupd, tupD]
  | .int _, _ => by simp [tupd, tupD]
  | .str _, _ => by simp [tupd, tupD]
  | .list ds, h => by
    rw [tupd, tupD]
    exact tupDs_tupds ds (okD_lst h).2
  | .tuple ds, h => by
    rw [tupd, tupD]
    exact tupDs_tupds ds (okD_tup h).2
  | .dict _, h => by unfold okD at h; cases h
theorem tupDs_tupds : ∀ ds : List PyData, okDs ds = true → tupDs (tupds ds) = true
  | [], _ => by simp [tupds, tupDs]
  | d :: ds, h => by
    unfold okDs at h
    obtain ⟨h1, h2⟩ := Bool.and_eq_true_iff.mp h
    rw [tupds, tupDs, tupD_tupd d h1, tupDs_tupds ds h2]
    rfl
end
theorem okD_f (m : Int) : okD (fD m) = true := by simp [fD, okD, okDs]
theorem okD_p (x : Lt) : okD (pD x) = true := by simp [pD, okD, okDs, okD_f]
theorem okD_r {r : Rw} (h : r.length ≤ 1000) : okD (rD r) = true := okD_tup_of (by rw [List.length_map]; exact h) fun d hd => by
  obtain ⟨x, _, rfl⟩ := List.mem_map.mp hd
  exact okD_p x
theorem okD_pairI (p : Int × Int) : okD (pairI p) = true := by simp [pairI, okD, okDs]
theorem okD_m {L : List (Int × Int)} (h : L.length ≤ 1000) : okD (mD L) = true := okD_tup_of (by rw [List.length_map]; exact h) fun d hd => by
  obtain ⟨x, _, rfl⟩ := List.mem_map.mp hd
  exact okD_pairI x
theorem depth_m (L : List (Int × Int)) : (mD L).depth ≤ 2 := by
  have := depth_pairs L
  unfold mD
  rw [PyData.depth]
  omega
mutual
theorem tupd_id : ∀ d : PyData, tupD d = true → tupd d = d
  | .none, _ => by simp [tupd]
  | .bool _, _ => by simp [tupd]
  | .int _, _ => by simp [tupd]
  | .str _, _ => by simp [tupd]
  | .list _, h => by unfold tupD at h; cases h
  | .tuple ds, h => by
    unfold tupD at h
    rw [tupd, tupds_id ds h]
  | .dict _, h => by unfold tupD at h; cases h
theorem tupds_id : ∀ ds : List PyData, tupDs ds = true → tupds ds = ds
  | [], _ => by simp [tupds]
  | d :: ds, h => by
    obtain ⟨h1, h2⟩ := tupDs_cons h
    rw [tupds, tupd_id d h1, tupds_id ds h2]
end
end K26
end
section
set_option Elab.async false
set_option linter.all false
set_option maxRecDepth 100000
set_option maxHeartbeats 400000
/-! What all walks use: a def's rule, isinstance of sequences, a walk over a list or a tuple. -/
namespace K26
open PySem PySem.Spec PyProof.Rows L2
section
variable {P : Program} {w : World} {K : PySem.W.Frag} {mg : Str → Option Value} {base : Heap}
theorem ok0 {x : Str} {st : Stmt} {f : Addr} {fd : FuncData} {N ps : List Str} {k : Nat} {sp : Sp} (F : FnP K x st f fd) (S : FnScope N ps (defScope st)) (len : ∀ vs H Q E, sp vs H Q E → vs.length = ps.length)
    (hbody : ∀ (cdv : Value) (A : Around) (outer : List Env) (s : Shared) (H : Hp) (vs : List V) (Q : VK) (E : XK), Room k (A.deeper (envOfC x (defScope st) s.heap.objs.size f cdv)) → sp vs H Q E →
      ∃ t, PSs (cxOf CX0 P w K mg base N x (defScope st) f cdv A outer s H E).nox (defBody st) t ∧ t { nx := fun _ H' => Q .non H', rt := Q } (start N vs) H) : FnOk P w K mg base CX0 (k + 1) f fd ps sp := by
  refine F.ok S len fun cdv A outer s H vs Q E hr h => ?_
  obtain ⟨t, h1, h2⟩ := hbody cdv A outer s H vs Q E hr h
  exact ⟨t, PSs.nox h1, h2⟩
end
section
variable {K : PySem.W.Frag} {H : Hp} {a : Addr} {xs : List V}
theorem tyx_list (h : SqL K H a xs) : TyX K H (.ref a) (.type "list") := by
  rcases h with (h | ⟨o, h⟩) | ⟨o, its, n, h1, h2, _⟩
  · exact .base (.lst h)
  · exact .base (.frz h)
  · exact .kList h1 h2
theorem tyx_tup (h : SqT K H a xs) : TyX K H (.ref a) (.type "tuple") := by
  rcases h with (h | ⟨o, h⟩) | ⟨o, its, n, h1, h2, _⟩
  · exact .base (.tup h)
  · exact .fTuple h
  · exact .kTuple h1 h2
theorem tyx_of {v : V} : ∀ {d : PyData}, Dp K H v d → TyX K H v (.type (match d with
    | .none => "NoneType"
    | .bool _ => "bool"
    | .int _ => "int"
    | .str _ => "str"
    | .list _ => "list"
    | .tuple _ => "tuple"
    | .dict _ => "dict"))
  | .none, h => by cases h; exact .base .non
  | .bool _, h => by cases h; exact .base (.bl _)
  | .int _, h => by cases h; exact .base (.int _)
  | .str _, h => by cases h; exact .base (.str _)
  | .list _, h => by
    obtain ⟨a, xs, rfl, h1, _⟩ := h.lst_inv
    exact tyx_list h1
  | .tuple _, h => by
    obtain ⟨a, xs, rfl, h1, _⟩ := h.tup_inv
    exact tyx_tup h1
  | .dict _, h => by cases h
end
/-- isinstance(x, T), T a built-in type -/
theorem kit_list : ∀ {K : PySem.W.Frag}, PySem.W.kitOne K (.type "list") (.type "list") = some true := kit_ty (by decide +kernel)
section
variable {K : PySem.W.Frag}
theorem ia_list : PySem.W.kitAny K (.type "list") [.type "list", .type "tuple"] = some true := kitAny_cons (b := true) (kit_ty (by decide +kernel)) (fun h => nomatch h) (fun _ => rfl)
theorem ia_tuple : PySem.W.kitAny K (.type "tuple") [.type "list", .type "tuple"] = some true := kitAny_cons (b := false) (kit_ty (by decide +kernel)) (fun _ => kitAny_cons (b := true) (kit_ty (by decide +kernel)) (fun h => nomatch h) (fun _ => rfl)) (fun h => nomatch h)
theorem ia_int : PySem.W.kitAny K (.type "int") [.type "list", .type "tuple"] = some false := kitAny_cons (b := false) (kit_ty (by decide +kernel)) (fun _ => kitAny_cons (b := false) (kit_ty (by decide +kernel)) (fun _ => kitAny_nil) (fun h => nomatch h)) (fun h => nomatch h)
theorem ia_bool : PySem.W.kitAny K (.type "bool") [.type "list", .type "tuple"] = some false := kitAny_cons (b := false) (kit_ty (by decide +kernel)) (fun _ => kitAny_cons (b := false) (kit_ty (by decide +kernel)) (fun _ => kitAny_nil) (fun h => nomatch h)) (fun h => nomatch h)
theorem ia_str : PySem.W.kitAny K (.type "str") [.type "list", .type "tuple"] = some false := kitAny_cons (b := false) (kit_ty (by decide +kernel)) (fun _ => kitAny_cons (b := false) (kit_ty (by decide +kernel)) (fun _ => kitAny_nil) (fun h => nomatch h)) (fun h => nomatch h)
theorem ia_none : PySem.W.kitAny K (.type "NoneType") [.type "list", .type "tuple"] = some false := kitAny_cons (b := false) (kit_ty (by decide +kernel)) (fun _ => kitAny_cons (b := false) (kit_ty (by decide +kernel)) (fun _ => kitAny_nil) (fun h => nomatch h)) (fun h => nomatch h)
theorem ib_bool : PySem.W.kitAny K (.type "bool") [.type "bool", .type "str"] = some true := kitAny_cons (b := true) (kit_ty (by decide +kernel)) (fun h => nomatch h) (fun _ => rfl)
theorem ib_int : PySem.W.kitAny K (.type "int") [.type "bool", .type "str"] = some false := kitAny_cons (b := false) (kit_ty (by decide +kernel)) (fun _ => kitAny_cons (b := false) (kit_ty (by decide +kernel)) (fun _ => kitAny_nil) (fun h => nomatch h)) (fun h => nomatch h)
theorem pair_ty2 (n m : String) : Paired ClsV [V.ty n, V.ty m] [Value.type n, Value.type m] := .cons (.ty _) (.cons (.ty _) .nil)
end
/-! ### an iterable that is a list or a tuple -/
section
variable {X : Cx} {tg : Expr}
def iSeq (K : PySem.W.Frag) (tl : TE) : TI := fun σ H R => tl σ H fun x H1 => ∃ a, x = .ref a ∧ ((∃ xs, SqL K H1 a xs ∧ R (Itl K a) H1) ∨ ∃ xs, SqT K H1 a xs ∧ R (Itt K a) H1)
theorem pi_seq {l : Expr} {tl : TE} (hl : PE X l tl) : PI X tg l (iSeq X.K tl) := by
  refine ⟨fun pins s σ H R I h => ?_⟩
  refine thn (hl.run pins s σ H _ I h) fun v s1 ⟨x, H1, I1, r1, q1⟩ => ?_
  obtain ⟨a, e, q⟩ := q1
  subst e
  cases r1
  rcases q with ⟨xs, hq, q⟩ | ⟨xs, hq, q⟩
  · obtain ⟨its, rv, p, hz⟩ := I1.list hq
    refine wpAny_pyIter_list p.isList ?_
    refine ⟨s1.heap.objs.size, [s1.heap.objs.size], _, _, H1, rfl, I1.kept (t' := s1.toks) fun b o e => Heap.get?_push_of_some _ e, turn_list a _, ⟨_, Heap.get?_push_size _ rfl, rfl, rfl⟩, fun b hb => ?_, q⟩
    have e : b = s1.heap.objs.size := by simpa using hb
    subst e
    exact I1.fpOk (Nat.le_refl _) (I1.hok.fresh (Nat.le_refl _))
  · obtain ⟨its, rv, p, hz⟩ := I1.tuple hq
    refine wpAny_pyIter_tuple (show s1.heap.IsTuple a its.toArray from p) ?_
    refine ⟨s1.heap.objs.size, [s1.heap.objs.size], _, _, H1, rfl, I1.kept (t' := s1.toks) fun b o e => Heap.get?_push_of_some _ e, turn_tuple a _, ⟨_, Heap.get?_push_size _ rfl, rfl, rfl⟩, fun b hb => ?_, q⟩
    have e : b = s1.heap.objs.size := by simpa using hb
    subst e
    exact I1.fpOk (Nat.le_refl _) (I1.hok.fresh (Nat.le_refl _))
end
/-- a list of so many -/
theorem nodep : True := trivial
theorem line_big : (1000000 : Nat) < sizeLine := by rw [sizeLine_eq]; decide
theorem le_line {n : Nat} (h : n ≤ 1000000) : n ≤ sizeLine := Nat.le_trans h (Nat.le_of_lt line_big)
theorem lt_line {n : Nat} (h : n < 1000000) : n < sizeLine := Nat.lt_trans h line_big
end K26
end
section
set_option Elab.async false
set_option linter.all false
set_option maxRecDepth 100000
set_option maxHeartbeats 400000
/-! A comprehension that changes nothing but its own list: what it makes, by data. -/
namespace K26
open PySem PySem.Spec PyProof.Rows L2
/-- y stays e whatever becomes of what stands at D -/
def Rob (K : PySem.W.Frag) (D : Addr) (H : Hp) (y : V) (e : PyData) : Prop := ∀ H', But D H H' → Dp K H' y e
theorem Rob.tup {K : PySem.W.Frag} {D : Addr} {H : Hp} {y : V} {e : PyData} {acc : List V} (h : Dp K H y e) (t : tupD e = true) (hD : H D = some (.lst acc)) : Rob K D H y e := fun H' b => Dp.kpt (KpT.of_but b hD) e y t h
section
variable {K : PySem.W.Frag} {J : It} {n : Nat} {G : Hp → Prop} {Y : Nat → Hp → V → Hp → Prop}
theorem lc_pure (w : Walk J n G Y) {g : TG} {tt : TT} {te : TE} {vs : List Nat} {σ : L2.St} {H0 : Hp} {D : Addr} {Qd : Hp → Prop} (es : List (Option PyData)) (hn : es.length = n) (hz : n ≤ sizeLine) (hD : H0 D = none)
    (hG : ∀ H, Same H0 H → G H) (hY : ∀ i H x H', Y i H x H' → Same H H')
    (hs : ∀ i x H H' o, es[i]? = some o → Same H0 H → Y i H x H' → (∃ acc, H' D = some (.lst acc)) → ∀ (R : VK) (Z : Hp → Prop), (∀ y H4 e, o = some e → Same H' H4 → Rob K D H4 y e → R y H4) → (o = none → ∀ H4, Same H' H4 → Z H4) →
      g x (wipe σ vs) H' fun σ2 H2 => wipe σ2 vs = wipe σ vs ∧ tt σ2 H2 fun b H3 => if b = true then te σ2 H3 R else Z H3)
    (hd : ∀ H acc, Same H0 H → H D = some (.lst acc) → (∀ H', But D H H' → DpAll K H' acc (es.filterMap id)) → Qd H) :
    ∃ W : Nat → Nat → Hp → Prop, (∃ m, W 0 m (upd H0 D (.lst []))) ∧ ∀ i m H, W i m H →
      (J.stop i H ∧ Qd H) ∨ (J.go i H ∧ ∃ Nx : Hp → Prop, (∀ H', Nx H' → ∃ m', m' < m ∧ W (i + 1) m' H') ∧ ∀ x H', J.yld i H x H' → g x (wipe σ vs) H' fun σ2 H2 => wipe σ2 vs = wipe σ vs ∧ tt σ2 H2 fun b H3 =>
        if b = true then te σ2 H3 fun y H4 => ∃ acc, H4 D = some (.lst acc) ∧ acc.length < sizeLine ∧ Nx (upd H4 D (.lst (acc ++ [y]))) else Nx H3) := by
  refine lc_it w (fun i H => Same H0 H ∧ ∃ acc, H D = some (.lst acc) ∧ (∀ H', But D H H' → DpAll K H' acc ((es.take i).filterMap id)) ∧ acc.length ≤ i) ⟨Same.new hD, [], upd_same, fun H' _ => by simp; exact .nil, Nat.le_refl _⟩ (fun i H _ h => hG H h.1) ?_ ?_
  · rintro i x H H' hi ⟨e0, acc, hacc, hall, hlen⟩ y
    have e1 := hY i H x H' y
    have hes : ∃ o, es[i]? = some o := ⟨es[i]'(by omega), List.getElem?_eq_getElem (by omega)⟩
    obtain ⟨o, ho⟩ := hes
    refine hs i x H H' o ho e0 y ⟨acc, e1 _ _ hacc⟩ _ _ (fun v H4 e eo e4 rb => ?_) (fun eo H4 e4 => ?_)
    · have hD4 : H4 D = some (.lst acc) := e4 _ _ (e1 _ _ hacc)
      refine ⟨acc, hD4, Nat.lt_of_le_of_lt hlen (Nat.lt_of_lt_of_le hi hz), Same.mut ((e0.trans e1).trans e4) hD, acc ++ [v], upd_same, fun H5 b => ?_, by rw [List.length_append]; simp; omega⟩
      have b4 : But D H4 H5 := (But.put).trans b
      have e6 : (es.take (i + 1)).filterMap id = (es.take i).filterMap id ++ [e] := by
        rw [List.take_add_one, ho, eo, List.filterMap_append]
        rfl
      rw [e6]
      exact DpAll.app (hall H5 (((But.of_same e1).trans (But.of_same e4)).trans b4)) (DpAll.one (rb H5 b4))
    · have e6 : (es.take (i + 1)).filterMap id = (es.take i).filterMap id := by
        rw [List.take_add_one, ho, eo, List.filterMap_append]
        simp
      refine ⟨(e0.trans e1).trans e4, acc, e4 _ _ (e1 _ _ hacc), fun H5 b => ?_, by omega⟩
      rw [e6]
      exact hall H5 (((But.of_same e1).trans (But.of_same e4)).trans b)
  · rintro H ⟨e0, acc, hacc, hall, _⟩
    refine hd H acc e0 hacc fun H' b => ?_
    have h := hall H' b
    rw [← hn, List.take_length] at h
    exact h
end
theorem YAt.same {xs : List V} (i : Nat) (H : Hp) (x : V) (H' : Hp) (h : YAt xs i H x H') : Same H H' := by
  rw [h.1]
  exact Same.refl H
theorem YFn.same {f : Nat → V} (i : Nat) (H : Hp) (x : V) (H' : Hp) (h : YFn f i H x H') : Same H H' := by
  rw [h.1]
  exact Same.refl H
theorem YPair.same {xs ys : Nat → Option V} (i : Nat) (H : Hp) (x : V) (H' : Hp) (h : YPair xs ys i H x H') : Same H H' := by
  obtain ⟨T, a, b, _, hn, e, _⟩ := h
  rw [e]
  exact Same.new hn
theorem dpAll_ints {K : PySem.W.Frag} {H : Hp} : ∀ {ns : List Int} {vs : List V}, DpAll K H vs (ns.map .int) → vs = ns.map V.int
  | [], _, h => by cases h; rfl
  | n :: ns, _, h => by
    rw [List.map_cons] at h
    cases h with
    | cons h1 h2 =>
      rw [h1.int_inv, dpAll_ints h2]
      rfl
theorem dpAll_bools {K : PySem.W.Frag} {H : Hp} : ∀ {ns : List Bool} {vs : List V}, DpAll K H vs (ns.map .bool) → vs = ns.map V.bl
  | [], _, h => by cases h; rfl
  | n :: ns, _, h => by
    rw [List.map_cons] at h
    cases h with
    | cons h1 h2 =>
      rw [h1.bl_inv, dpAll_bools h2]
      rfl
theorem ints_dpAll {K : PySem.W.Frag} {H : Hp} : ∀ ns : List Int, DpAll K H (ns.map V.int) (ns.map .int)
  | [] => .nil
  | n :: ns => .cons (.int n) (ints_dpAll ns)
theorem filterMap_some {α β : Type} (f : α → β) : ∀ l : List α, (l.map fun x => some (f x)).filterMap id = l.map f
  | [] => rfl
  | x :: l => by
    rw [List.map_cons, List.filterMap_cons_some (by rfl), filterMap_some f l]
    rfl
end K26
end
section
set_option Elab.async false
set_option linter.all false
set_option maxRecDepth 100000
set_option maxHeartbeats 400000
/-! tuple_of -/
namespace K26
open PySem PySem.Spec PyProof.Rows L2
section
variable {P : Program} {w : World} {K : PySem.W.Frag} {mg : Str → Option Value} {base : Heap}
def spTupleOf (K : PySem.W.Frag) (n : Nat) : Sp := fun vs H Q _ => ∃ (v : V) (d : PyData), vs = [v] ∧ Dp K H v d ∧ d.depth ≤ n ∧ okD d = true ∧ ∀ v' H', Same H H' → Dp K H' v' (tupd d) → Q v' H'
theorem depth_get {ds : List PyData} : ∀ {i : Nat} {d : PyData}, ds[i]? = some d → d.depth ≤ PyData.depthAll ds := by
  induction ds with
  | nil => intro i d h; simp at h
  | cons x ds ih =>
    intro i d h
    cases i with
    | zero =>
      simp at h
      subst h
      simp only [PyData.depthAll]
      omega
    | succ i =>
      have := ih (by simpa using h)
      simp only [PyData.depthAll]
      omega
theorem ok_tupleOf (T : Tx K mg) : ∀ n, FnOk P w K mg base CX0 (n + 1) T.fTupleOf T.fdTupleOf ["thing"] (spTupleOf K n)
  | 0 => by
    refine ok0 T.FTupleOf scTupleOf (fun vs H Q E h => ?_) (fun cdv A outer s H vs Q E hr h => ?_)
    · obtain ⟨v, d, rfl, _⟩ := h
      rfl
    · obtain ⟨v, d, rfl, hd, hn, hok, k⟩ := h
      refine ⟨_, pss_cons (ps_if (pt_val (pe_callB call_isiT (by rfl) T.b_isinstance boot_isinstance (pa_cons (pv 0) (pa_cons (pe_tup (pa_cons (pe_bltn (v := .ty "list") (by rfl) T.b_list PyProof.Rows.boot_list rfl) (pa_cons (pe_bltn (v := .ty "tuple") (by rfl) T.b_tuple PyProof.Rows.boot_tuple rfl) pa_nil))) pa_nil))))
        (pss_one ps_never) pss_nil) (pss_one (ps_ret (pv 0))), ?_⟩
      refine ⟨_, rfl, (by show 2 ≤ sizeLine; decide), fun tp htp => ?_⟩
      have ty := tyx_of (Dp.same (Same.new (o := .tup [.ty "list", .ty "tuple"]) htp) d v hd)
      have fin : ∀ H', Same H H' → tupd d = d → Q v H' := fun H' e t => k v H' e (by rw [t]; exact Dp.same e d v hd)
      cases d with
      | list ds => simp [PyData.depth] at hn
      | tuple ds => simp [PyData.depth] at hn
      | dict _ => cases hd
      | none => exact ⟨_, tp, _, _, _, false, rfl, upd_same, pair_ty2 _ _, ty, ia_none, false, rfl, _, rfl, fin _ (Same.new htp) rfl⟩
      | bool b => exact ⟨_, tp, _, _, _, false, rfl, upd_same, pair_ty2 _ _, ty, ia_bool, false, rfl, _, rfl, fin _ (Same.new htp) rfl⟩
      | int i => exact ⟨_, tp, _, _, _, false, rfl, upd_same, pair_ty2 _ _, ty, ia_int, false, rfl, _, rfl, fin _ (Same.new htp) rfl⟩
      | str x => exact ⟨_, tp, _, _, _, false, rfl, upd_same, pair_ty2 _ _, ty, ia_str, false, rfl, _, rfl, fin _ (Same.new htp) rfl⟩
  | n + 1 => by
    have G : FnOk P w K mg base CX0 (n + 1) T.fTupleOf T.fdTupleOf ["thing"] (spTupleOf K n) := ok_tupleOf T n
    refine ok0 T.FTupleOf scTupleOf (fun vs H Q E h => ?_) (fun cdv A outer s H vs Q E hr h => ?_)
    · obtain ⟨v, d, rfl, _⟩ := h
      rfl
    · obtain ⟨v, d, rfl, hd, hn, hok, k⟩ := h
      refine ⟨_, pss_cons (ps_if (pt_val (pe_callB call_isiT (by rfl) T.b_isinstance boot_isinstance (pa_cons (pv 0) (pa_cons (pe_tup (pa_cons (pe_bltn (v := .ty "list") (by rfl) T.b_list PyProof.Rows.boot_list rfl) (pa_cons (pe_bltn (v := .ty "tuple") (by rfl) T.b_tuple PyProof.Rows.boot_tuple rfl) pa_nil))) pa_nil))))
        (pss_one (ps_ret (pe_callTy call_tuple_of (by rfl) T.b_tuple PyProof.Rows.boot_tuple (pa_cons (pe_lc (own := [("part", 1)]) (g := gName 1) (tt := tYes) (by rfl) scTupleOf.nd (pi_seq (pv 0)) (blkOk_by (N := nTupleOf) (sc := defScope sTupleOf) (by decide +kernel)) (fun _ _ _ _ _ => pg_name (i := 1) scTupleOf.nd rfl (Or.inl rfl)) (fun _ _ _ _ _ => pts_nil)
          (fun _ _ _ _ _ => pe_call G hr rfl T.gTupleOf T.FTupleOf.kp T.bTupleOf .nil pass0 (pa_cons (pv 1) pa_nil))) pa_nil)))) pss_nil) (pss_one (ps_ret (pv 0))), ?_⟩
      refine ⟨_, rfl, (by show 2 ≤ sizeLine; decide), fun tp htp => ?_⟩
      have e0 : Same H (upd H tp (.tup [.ty "list", .ty "tuple"])) := Same.new htp
      have hd0 := Dp.same e0 d v hd
      have ty := tyx_of hd0
      have fin : ∀ H', Same H H' → tupd d = d → Q v H' := fun H' e t => k v H' e (by rw [t]; exact Dp.same e d v hd)
      cases d with
      | dict _ => cases hd
      | none => exact ⟨_, tp, _, _, _, false, rfl, upd_same, pair_ty2 _ _, ty, ia_none, false, rfl, _, rfl, fin _ e0 rfl⟩
      | bool b => exact ⟨_, tp, _, _, _, false, rfl, upd_same, pair_ty2 _ _, ty, ia_bool, false, rfl, _, rfl, fin _ e0 rfl⟩
      | int i => exact ⟨_, tp, _, _, _, false, rfl, upd_same, pair_ty2 _ _, ty, ia_int, false, rfl, _, rfl, fin _ e0 rfl⟩
      | str x => exact ⟨_, tp, _, _, _, false, rfl, upd_same, pair_ty2 _ _, ty, ia_str, false, rfl, _, rfl, fin _ e0 rfl⟩
      | list ds =>
        refine ⟨_, tp, _, _, _, true, rfl, upd_same, pair_ty2 _ _, ty, ia_list, true, rfl, ?_⟩
        obtain ⟨a, xs, rfl, h1, h2⟩ := hd0.lst_inv
        refine ⟨_, rfl, a, rfl, .inl ⟨xs, h1, fun D hD => ?_⟩⟩
        refine lc_pure (K := K) (walk_list (K := K) (a := a) (xs := xs)) (ds.map fun d => some (tupd d)) (by rw [List.length_map, h2.len]) (by rw [h2.len]; exact Nat.le_trans (okD_lst hok).1 (by decide)) hD (fun H' e => e.seq h1) YAt.same (fun i x H1 H2 o ho e1 y acc R Z hR hZ => ?_) fun H' acc e1 hacc hall => ?_
        · obtain ⟨rfl, hx⟩ := y
          obtain ⟨d, hdi, hdx⟩ := h2.get hx
          rw [List.getElem?_map, hdi] at ho
          have eo : o = some (tupd d) := (Option.some.inj ho).symm
          refine ⟨rfl, ?_⟩
          refine ⟨_, rfl, x, d, rfl, Dp.same e1 _ _ hdx, ?_, okDs_get (okD_lst hok).2 hdi, fun v' H' e2 hv => hR v' H' _ eo e2 ?_⟩
          · have := depth_get hdi
            have hn' : PyData.depthAll ds + 1 ≤ n + 1 := hn
            omega
          · obtain ⟨acc, hacc⟩ := acc
            exact Rob.tup hv (tupD_tupd d (okDs_get (okD_lst hok).2 hdi)) (e2 _ _ hacc)
        · refine ⟨D, acc, rfl, .inl ⟨SqL.of hacc, fun l hl => ?_⟩⟩
          rw [filterMap_some] at hall
          have e3 : Same H' (upd H' l (.tup acc)) := Same.new hl
          refine k _ _ ((e0.trans e1).trans e3) ?_
          rw [tupd, tupds_map]
          exact .tup (SqT.of upd_same) (hall _ (But.of_same e3))
      | tuple ds =>
        refine ⟨_, tp, _, _, _, true, rfl, upd_same, pair_ty2 _ _, ty, ia_tuple, true, rfl, ?_⟩
        obtain ⟨a, xs, rfl, h1, h2⟩ := hd0.tup_inv
        refine ⟨_, rfl, a, rfl, .inr ⟨xs, h1, fun D hD => ?_⟩⟩
        refine lc_pure (K := K) (walk_tup (K := K) (a := a) (xs := xs)) (ds.map fun d => some (tupd d)) (by rw [List.length_map, h2.len]) (by rw [h2.len]; exact Nat.le_trans (okD_tup hok).1 (by decide)) hD (fun H' e => (KpT.of_same e).seq h1) YAt.same (fun i x H1 H2 o ho e1 y acc R Z hR hZ => ?_) fun H' acc e1 hacc hall => ?_
        · obtain ⟨rfl, hx⟩ := y
          obtain ⟨d, hdi, hdx⟩ := h2.get hx
          rw [List.getElem?_map, hdi] at ho
          have eo : o = some (tupd d) := (Option.some.inj ho).symm
          refine ⟨rfl, ?_⟩
          refine ⟨_, rfl, x, d, rfl, Dp.same e1 _ _ hdx, ?_, okDs_get (okD_tup hok).2 hdi, fun v' H' e2 hv => hR v' H' _ eo e2 ?_⟩
          · have := depth_get hdi
            have hn' : PyData.depthAll ds + 1 ≤ n + 1 := hn
            omega
          · obtain ⟨acc, hacc⟩ := acc
            exact Rob.tup hv (tupD_tupd d (okDs_get (okD_tup hok).2 hdi)) (e2 _ _ hacc)
        · refine ⟨D, acc, rfl, .inl ⟨SqL.of hacc, fun l hl => ?_⟩⟩
          rw [filterMap_some] at hall
          have e3 : Same H' (upd H' l (.tup acc)) := Same.new hl
          refine k _ _ ((e0.trans e1).trans e3) ?_
          rw [tupd, tupds_map]
          exact .tup (SqT.of upd_same) (hall _ (But.of_same e3))
end
end K26
end
section
set_option Elab.async false
set_option linter.all false
set_option maxRecDepth 100000
set_option maxHeartbeats 400000
/-! fraction, plus, go_together, _law_low, _law_add, _law_free -/
namespace K26
open PySem PySem.Spec PyProof.Rows L2
theorem Room.u65 {k : Nat} {A : Around} (r : Room k A) : A.units + 65 < cLine := by have := r.un; omega
theorem Room.u64 {k : Nat} {A : Around} (r : Room k A) : A.units + 64 < cLine := by have := r.un; omega
theorem gcd_int (t b : Int) : ((Nat.gcd t.natAbs b.natAbs : Nat) : Int) = (Int.gcd t b : Int) := rfl
theorem fdiv_gcd_left (t b : Int) (hb : 0 < b) : t.fdiv (Int.gcd t b : Int) = t / (Int.gcd t b : Int) := by
  have : 0 < Int.gcd t b := Int.gcd_pos_of_ne_zero_right t (by omega)
  exact Int.fdiv_eq_ediv_of_nonneg _ (by omega)
theorem fdiv_gcd_right (t b : Int) (hb : 0 < b) : b.fdiv (Int.gcd t b : Int) = b / (Int.gcd t b : Int) := by
  have : 0 < Int.gcd t b := Int.gcd_pos_of_ne_zero_right t (by omega)
  exact Int.fdiv_eq_ediv_of_nonneg _ (by omega)
theorem gcd_small {t b : Int} (hb : 0 < b) (h : b ≤ 1000000) : CDivN t (Int.gcd t b : Int) ∧ CDivN b (Int.gcd t b : Int) := by
  have h1 : 0 < Int.gcd t b := Int.gcd_pos_of_ne_zero_right t (by omega)
  have h2 : (Int.gcd t b : Int) ≤ b := Int.le_of_dvd hb (Int.gcd_dvd_right ..)
  have h3 : (Int.gcd t b : Int) ≠ 0 ∧ ((Int.gcd t b : Int)).natAbs < 1073741824 := ⟨by omega, by omega⟩
  exact ⟨h3, h3⟩
section
variable {P : Program} {w : World} {K : PySem.W.Frag} {mg : Str → Option Value} {base : Heap}
def quoD (t b : Int) : PyData := .tuple [.int (t / (Int.gcd t b : Int)), .int (b / (Int.gcd t b : Int))]
def spFraction (K : PySem.W.Frag) : Sp := fun vs H Q _ => ∃ (t b : Int), vs = [.int t, .int b] ∧ 0 < b ∧ b ≤ 1000000 ∧ ∀ v H', Same H H' → Dp K H' v (quoD t b) → Q v H'
theorem ok_fraction (T : Tx K mg) : FnOk P w K mg base CX0 1 T.fFraction T.fdFraction ["top", "bottom"] (spFraction K) := by
  refine ok0 T.FFraction scFraction (fun vs H Q E h => ?_) (fun cdv A outer s H vs Q E hr h => ?_)
  · obtain ⟨t, b, rfl, _⟩ := h
    rfl
  · obtain ⟨t, b, rfl, hb, hb2, k⟩ := h
    refine ⟨_, pss_cons (ps_if (pt_cmpR op_eq (pv 1) pe_int (nomark _)) (pss_one ps_never) pss_nil)
      (pss_cons (ps_set (i := 2) scFraction.nd rfl (Or.inl rfl) (pe_callBfun cr_gcd (by rfl) T.gGcd (pa_cons (pv 0) (pa_cons (pv 1) pa_nil))))
      (pss_cons (ps_if (pt_cmpR op_lt (pv 1) pe_int (nomark _)) (pss_one ps_never) pss_nil)
      (pss_one (ps_ret (pe_tup (pa_cons (pe_op op_fdivN (pv 0) (pv 2)) (pa_cons (pe_op op_fdivN (pv 1) (pv 2)) pa_nil))))))), ?_⟩
    refine ⟨_, rfl, rfl, _, rfl, ?_⟩
    refine ite2 (fun h => ?_) (fun _ => ?_)
    · have := V.int.inj (of_decide_eq_true h)
      omega
    refine ⟨_, rfl, _, rfl, t, b, rfl, ?_⟩
    refine ⟨_, rfl, _, _, rfl, rfl, _, rfl, ?_⟩
    refine ite2 (fun h => ?_) (fun _ => ?_)
    · have := of_decide_eq_true h
      omega
    obtain ⟨c1, c2⟩ := gcd_small (t := t) hb hb2
    refine ⟨_, rfl, _, rfl, _, _, rfl, rfl, c1, _, rfl, _, rfl, _, _, rfl, rfl, c2, (by show 2 ≤ sizeLine; decide), fun p hp => ?_⟩
    refine k _ _ (Same.new hp) (.tup (SqT.of upd_same) ?_)
    dsimp only
    rw [gcd_int, fdiv_gcd_left t b hb, fdiv_gcd_right t b hb]
    exact .two (.int _) (.int _)
/-- two FRACTIONS as they stand -/
theorem fD_inv {H : Hp} {v : V} {m : Int} (h : Dp K H v (fD m)) : ∃ a, v = .ref a ∧ SqT K H a [.int (fq m).1, .int (fq m).2] := by
  obtain ⟨a, xs, rfl, h1, h2⟩ := Dp.tup_inv h
  obtain ⟨x, y, rfl, hx, hy⟩ := h2.two_inv
  rw [hx.int_inv, hy.int_inv] at h1
  exact ⟨a, rfl, h1⟩
theorem quoD_sum (a b : Int) : quoD ((fq a).1 * (fq b).2 + (fq b).1 * (fq a).2) ((fq a).2 * (fq b).2) = fD (a + b) := by
  obtain ⟨h1, h2⟩ := low_eq (Int.mul_pos (fq_bot_pos a) (fq_bot_pos b)) (sum_cross a b)
  unfold quoD fD
  rw [h1, h2]
theorem bot_mul (a b : Int) : 0 < (fq a).2 * (fq b).2 ∧ (fq a).2 * (fq b).2 ≤ 1000000 := by
  refine ⟨Int.mul_pos (fq_bot_pos a) (fq_bot_pos b), ?_⟩
  have h1 := fq_bot_le a
  have h2 := fq_bot_le b
  have h3 := fq_bot_pos a
  have h4 := fq_bot_pos b
  have : (fq a).2 * (fq b).2 ≤ 6 * 6 := Int.mul_le_mul h1 h2 (by omega) (by decide)
  omega
theorem bot_small (a : Int) : -(2 ^ 64) < (fq a).2 ∧ (fq a).2 < 2 ^ 64 := by
  have h1 := fq_bot_le a
  have h3 := fq_bot_pos a
  omega
def spPlus (K : PySem.W.Frag) : Sp := fun vs H Q _ => ∃ (v u : V) (a b : Int), vs = [v, u] ∧ Dp K H v (fD a) ∧ Dp K H u (fD b) ∧ ∀ v' H', Same H H' → Dp K H' v' (fD (a + b)) → Q v' H'
theorem at0 {α : Type} {x y : α} : atI [x, y] (0 : Int) = some x := rfl
theorem at1 {α : Type} {x y : α} : atI [x, y] (1 : Int) = some y := rfl
theorem ok_plus (T : Tx K mg) : FnOk P w K mg base CX0 2 T.fPlus T.fdPlus ["x", "y"] (spPlus K) := by
  have G : FnOk P w K mg base CX0 1 T.fFraction T.fdFraction ["top", "bottom"] (spFraction K) := ok_fraction T
  refine ok0 T.FPlus scPlus (fun vs H Q E h => ?_) (fun cdv A outer s H vs Q E hr h => ?_)
  · obtain ⟨v, u, a, b, rfl, _⟩ := h
    rfl
  · obtain ⟨v, u, a, b, rfl, hv, hu, k⟩ := h
    obtain ⟨p, rfl, hp⟩ := fD_inv hv
    obtain ⟨q, rfl, hq⟩ := fD_inv hu
    refine ⟨_, pss_one (ps_ret (pe_call G hr rfl T.gFraction T.FFraction.kp T.bFraction .nil pass0 (pa_cons
      (pe_op op_add (pe_op op_mul (pe_ix ix_tup (pv 0) pe_int (fun _ _ => rfl)) (pe_ix ix_tup (pv 1) pe_int (fun _ _ => rfl))) (pe_op op_mul (pe_ix ix_tup (pv 1) pe_int (fun _ _ => rfl)) (pe_ix ix_tup (pv 0) pe_int (fun _ _ => rfl))))
      (pa_cons (pe_op op_mul (pe_ix ix_tup (pv 0) pe_int (fun _ _ => rfl)) (pe_ix ix_tup (pv 1) pe_int (fun _ _ => rfl))) pa_nil)))), ?_⟩
    refine ⟨_, rfl, p, _, _, _, rfl, rfl, hp, at0, _, rfl, q, _, _, _, rfl, rfl, hq, at1, _, _, rfl, rfl, .inr (bot_small b), ?_⟩
    refine ⟨_, rfl, q, _, _, _, rfl, rfl, hq, at0, _, rfl, p, _, _, _, rfl, rfl, hp, at1, _, _, rfl, rfl, .inr (bot_small a), _, _, rfl, rfl, ?_⟩
    refine ⟨_, rfl, p, _, _, _, rfl, rfl, hp, at1, _, rfl, q, _, _, _, rfl, rfl, hq, at1, _, _, rfl, rfl, .inr (bot_small b), ?_⟩
    refine ⟨_, _, rfl, (bot_mul a b).1, (bot_mul a b).2, fun v' H' e h => k v' H' e ?_⟩
    rw [← quoD_sum]
    exact h
def spGo (K : PySem.W.Frag) : Sp := fun vs H Q _ => ∃ (p q : Int) (m : V) (L : List (Int × Int)), vs = [.int p, .int q, m] ∧ Dp K H m (mD L) ∧ ∀ H', Same H H' → Q (.bl (fr L p q)) H'
theorem go_read {H : Hp} {p q : Int} {m : V} {L : List (Int × Int)} {Q : VK} (hm : Dp K H m (mD L)) (k : ∀ H', Same H H' → Q (.bl (fr L p q)) H') (t : Addr) (ht : H t = none) :
    rInT K (.ref t) m (upd H t (.tup [.int (if q < p then q else p), .int (if q > p then q else p)])) Q := by
  refine ⟨pairI (mnx p q), L.map pairI, .tup (SqT.of upd_same) (.two (.int _) (.int _)), Dp.same (Same.new ht) _ _ hm, shaped_pairI _, shaped_m L, ?_⟩
  rw [any_pairI]
  exact k _ (Same.new ht)
theorem ok_goTogether (T : Tx K mg) : FnOk P w K mg base CX0 1 T.fGoTogether T.fdGoTogether ["one", "two", "meets"] (spGo K) := by
  refine ok0 T.FGoTogether scGoTogether (fun vs H Q E h => ?_) (fun cdv A outer s H vs Q E hr h => ?_)
  · obtain ⟨p, q, m, L, rfl, _⟩ := h
    rfl
  · obtain ⟨p, q, m, L, rfl, hm, k⟩ := h
    refine ⟨_, pss_one (ps_ret (pe_cmpR (op_inT (Room.u65 hr)) (pe_tup (pa_cons (pe_callB (call_min2 rfl) (by rfl) T.b_min PyProof.Rows.boot_min (pa_cons (pv 0) (pa_cons (pv 1) pa_nil))) (pa_cons (pe_callB (call_max2 rfl) (by rfl) T.b_max PyProof.Rows.boot_max (pa_cons (pv 0) (pa_cons (pv 1) pa_nil))) pa_nil))) (pv 2) (by rfl))), ?_⟩
    refine ⟨_, rfl, _, rfl, p, q, rfl, _, rfl, _, rfl, p, q, rfl, (by show 2 ≤ sizeLine; decide), fun t ht => ?_⟩
    exact ⟨_, rfl, go_read hm k t ht⟩
theorem ok_free (T : Tx K mg) : FnOk P w K mg base CX0 1 T.fLFree T.fdLFree ["_law_one_so", "_law_two_so", "_law_lets_so"] (spGo K) := by
  refine ok0 T.FLFree scLFree (fun vs H Q E h => ?_) (fun cdv A outer s H vs Q E hr h => ?_)
  · obtain ⟨p, q, m, L, rfl, _⟩ := h
    rfl
  · obtain ⟨p, q, m, L, rfl, hm, k⟩ := h
    refine ⟨_, pss_one (ps_ret (pe_cmpR (op_inT (Room.u65 hr)) (pe_tup (pa_cons (pe_callB (call_min2 rfl) (by rfl) T.b_min PyProof.Rows.boot_min (pa_cons (pv 0) (pa_cons (pv 1) pa_nil))) (pa_cons (pe_callB (call_max2 rfl) (by rfl) T.b_max PyProof.Rows.boot_max (pa_cons (pv 0) (pa_cons (pv 1) pa_nil))) pa_nil))) (pv 2) (by rfl))), ?_⟩
    refine ⟨_, rfl, _, rfl, p, q, rfl, _, rfl, _, rfl, p, q, rfl, (by show 2 ≤ sizeLine; decide), fun t ht => ?_⟩
    exact ⟨_, rfl, go_read hm k t ht⟩
def spLow (K : PySem.W.Frag) : Sp := spFraction K
theorem abs_nat (i : Int) : (if i < 0 then -i else i) = ((i.natAbs : Nat) : Int) := by split <;> omega
def far3 (σ : L2.St) : Nat := match σ[3]? with
  | some (some (V.int f)) => f.toNat
  | _ => 0
theorem ok_low (T : Tx K mg) : FnOk P w K mg base CX0 1 T.fLLow T.fdLLow ["_law_top_so", "_law_down_so"] (spLow K) := by
  refine ok0 T.FLLow scLLow (fun vs H Q E h => ?_) (fun cdv A outer s H vs Q E hr h => ?_)
  · obtain ⟨t, b, rfl, _⟩ := h
    rfl
  · obtain ⟨t, b, rfl, hb, hb2, k⟩ := h
    refine ⟨_, pss_cons (ps_par (i := 2) (j := 3) (by rfl) scLLow.nd rfl rfl (by decide) rfl rfl (pa_cons (pe_callB call_abs (by rfl) T.b_abs PyProof.Rows.boot_abs (pa_cons (pv 0) pa_nil)) (pa_cons (pe_callB call_abs (by rfl) T.b_abs PyProof.Rows.boot_abs (pa_cons (pv 1) pa_nil)) pa_nil)) (by rfl))
      (pss_cons (ps_while PassesOwn.never (pt_cmpR op_gt (pv 3) pe_int (nomark _)) (pss_one (ps_par (i := 2) (j := 3) (by rfl) scLLow.nd rfl rfl (by decide) rfl rfl (pa_cons (pv 3) (pa_cons (pe_op op_modN (pe_callTy call_int1 (by rfl) T.b_int PyProof.Rows.boot_int (pa_cons (pv 2) pa_nil)) (pv 3)) pa_nil)) (by rfl))))
      (pss_cons (ps_if (pt_cmpR op_lt (pv 1) pe_int (nomark _)) (pss_one ps_never) pss_nil)
      (pss_one (ps_ret (pe_tup (pa_cons (pe_op op_fdivN (pv 0) (pv 2)) (pa_cons (pe_op op_fdivN (pv 1) (pv 2)) pa_nil))))))), ?_⟩
    refine ⟨_, rfl, t, rfl, _, rfl, b, rfl, _, _, rfl, ?_⟩
    refine while_by (fun σ H' => ∃ n f : Nat, σ = [some (.int t), some (.int b), some (.int (n : Nat)), some (.int (f : Nat))] ∧ H' = H ∧ Nat.gcd n f = Int.gcd t b) (fun σ _ => far3 σ) ⟨t.natAbs, b.natAbs, by rw [abs_nat, abs_nat]; rfl, rfl, rfl⟩ ?_ ?_
    · rintro σ H' ⟨n, f, rfl, rfl, hg⟩
      refine ⟨_, rfl, _, _, rfl, rfl, _, rfl, ?_⟩
      refine ite2 (fun h => ?_) (fun h => ?_)
      · have hf : 0 < (f : Int) := of_decide_eq_true h
        refine ⟨_, rfl, _, rfl, .inl ⟨_, rfl, _, rfl, _, _, rfl, rfl, (by omega), _, _, rfl, ⟨f, n % f, ?_, rfl, ?_⟩, ?_⟩⟩
        · have e : (n : Int).fmod (f : Int) = ((n % f : Nat) : Int) := by
            rw [Int.fmod_eq_emod_of_nonneg _ (by omega)]
            rfl
          show [some (V.int t), some (V.int b), some (V.int (f : Nat)), some (V.int ((n : Int).fmod (f : Int)))] = _
          rw [e]
        · rw [← hg, Nat.gcd_comm n f, Nat.gcd_comm f (n % f), ← Nat.gcd_rec]
        · have e : (n : Int).fmod (f : Int) = ((n % f : Nat) : Int) := by
            rw [Int.fmod_eq_emod_of_nonneg _ (by omega)]
            rfl
          show ((n : Int).fmod (f : Int)).toNat < ((f : Nat) : Int).toNat
          rw [e]
          have := Nat.mod_lt n (show 0 < f by omega)
          omega
      · have hf : f = 0 := by
          have : ¬ (0 : Int) < (f : Int) := fun z => h (decide_eq_true z)
          omega
        subst hf
        have hn : n = Int.gcd t b := by rw [← hg, Nat.gcd_zero_right]
        subst hn
        refine ⟨_, rfl, _, _, rfl, rfl, _, rfl, ?_⟩
        refine ite2 (fun h => ?_) (fun _ => ?_)
        · have := of_decide_eq_true h
          omega
        obtain ⟨c1, c2⟩ := gcd_small (t := t) hb hb2
        refine ⟨_, rfl, _, rfl, _, _, rfl, rfl, c1, _, rfl, _, rfl, _, _, rfl, rfl, c2, (by show 2 ≤ sizeLine; decide), fun p hp => ?_⟩
        refine k _ _ (Same.new hp) (.tup (SqT.of upd_same) ?_)
        dsimp only
        rw [fdiv_gcd_left t b hb, fdiv_gcd_right t b hb]
        exact .two (.int _) (.int _)
    · rintro σ H' Q1 Q2 hq ⟨v, e, i, j, e1, e2, kk, e3, q⟩
      exact ⟨v, e, i, j, e1, e2, kk, e3, hq _ _ q⟩
theorem ok_add (T : Tx K mg) : FnOk P w K mg base CX0 2 T.fLAdd T.fdLAdd ["_law_own", "_law_far"] (spPlus K) := by
  have G : FnOk P w K mg base CX0 1 T.fLLow T.fdLLow ["_law_top_so", "_law_down_so"] (spLow K) := ok_low T
  refine ok0 T.FLAdd scLAdd (fun vs H Q E h => ?_) (fun cdv A outer s H vs Q E hr h => ?_)
  · obtain ⟨v, u, a, b, rfl, _⟩ := h
    rfl
  · obtain ⟨v, u, a, b, rfl, hv, hu, k⟩ := h
    obtain ⟨p, rfl, hp⟩ := fD_inv hv
    obtain ⟨q, rfl, hq⟩ := fD_inv hu
    refine ⟨_, pss_one (ps_ret (pe_call G hr rfl T.gLLow T.FLLow.kp T.bLLow .nil pass0 (pa_cons
      (pe_op op_add (pe_op op_mul (pe_ix ix_tup (pv 0) pe_int (fun _ _ => rfl)) (pe_ix ix_tup (pv 1) pe_int (fun _ _ => rfl))) (pe_op op_mul (pe_ix ix_tup (pv 1) pe_int (fun _ _ => rfl)) (pe_ix ix_tup (pv 0) pe_int (fun _ _ => rfl))))
      (pa_cons (pe_op op_mul (pe_ix ix_tup (pv 0) pe_int (fun _ _ => rfl)) (pe_ix ix_tup (pv 1) pe_int (fun _ _ => rfl))) pa_nil)))), ?_⟩
    refine ⟨_, rfl, p, _, _, _, rfl, rfl, hp, at0, _, rfl, q, _, _, _, rfl, rfl, hq, at1, _, _, rfl, rfl, .inr (bot_small b), ?_⟩
    refine ⟨_, rfl, q, _, _, _, rfl, rfl, hq, at0, _, rfl, p, _, _, _, rfl, rfl, hp, at1, _, _, rfl, rfl, .inr (bot_small a), _, _, rfl, rfl, ?_⟩
    refine ⟨_, rfl, p, _, _, _, rfl, rfl, hp, at1, _, rfl, q, _, _, _, rfl, rfl, hq, at1, _, _, rfl, rfl, .inr (bot_small b), ?_⟩
    refine ⟨_, _, rfl, (bot_mul a b).1, (bot_mul a b).2, fun v' H' e h => k v' H' e ?_⟩
    rw [← quoD_sum]
    exact h
end
end K26
end
section
set_option Elab.async false
set_option linter.all false
set_option maxRecDepth 100000
set_option maxHeartbeats 400000
/-! place_to_meet, shortened, normal_row, is_same -/
namespace K26
open PySem PySem.Spec PyProof.Rows L2
section
variable {P : Program} {w : World} {K : PySem.W.Frag} {mg : Str → Option Value} {base : Heap}
theorem pD_inv {H : Hp} {v : V} {x : Lt} (h : Dp K H v (pD x)) : ∃ a u, v = .ref a ∧ SqT K H a [.int x.1, u] ∧ Dp K H u (fD x.2) := by
  obtain ⟨a, xs, rfl, h1, h2⟩ := Dp.tup_inv h
  obtain ⟨y, z, rfl, hy, hz⟩ := h2.two_inv
  rw [hy.int_inv] at h1
  exact ⟨a, z, rfl, h1, hz⟩
def optV : Option Nat → V
  | none => .non
  | some k => .int (k : Nat)
def spPlace (K : PySem.W.Frag) : Sp := fun vs H Q _ => ∃ (l : Addr) (p : Int) (m : V) (xs : List V) (R : Rw) (L : List (Int × Int)), vs = [.ref l, .int p, m] ∧ SqL K H l xs ∧ DpAll K H xs (R.map pD) ∧ R.length ≤ 1000 ∧ Dp K H m (mD L) ∧ Prop1 L ∧
  ∀ H' o, Same H H' → PlaceIs (fr L) R p o → Q (optV o) H'
theorem ok_placeToMeet (T : Tx K mg) : FnOk P w K mg base CX0 2 T.fPlaceToMeet T.fdPlaceToMeet ["pairs", "part", "meets"] (spPlace K) := by
  have G : FnOk P w K mg base CX0 1 T.fGoTogether T.fdGoTogether ["one", "two", "meets"] (spGo K) := ok_goTogether T
  refine ok0 T.FPlaceToMeet scPlaceToMeet (fun vs H Q E h => ?_) (fun cdv A outer s H vs Q E hr h => ?_)
  · obtain ⟨l, p, m, xs, R, L, rfl, _⟩ := h
    rfl
  · obtain ⟨l, p, m, xs, R, L, rfl, hl, hx, hlen, hm, hL, k⟩ := h
    have C := fr_com hL
    refine ⟨_, pss_cons (ps_for PassesOwn.never rfl (pi_revR (by rfl) T.b_reversed (prg_1 (by rfl) T.b_range (pe_callB call_len_seq (by rfl) T.b_len PySem.boot_len (pa_cons (pv 0) pa_nil)))) (pg_name (i := 3) scPlaceToMeet.nd rfl (Or.inl rfl))
        (pss_cons (ps_if (pt_cmpR op_eq (pe_ix ix_tup (pe_ix ix_list (pv 0) (pv 3) (fun _ _ => rfl)) pe_int (fun _ _ => rfl)) (pv 1) (nomark _)) (pss_one (ps_ret (pv 3))) pss_nil)
        (pss_one (ps_if (pt_not (pt_val (pe_call G hr rfl T.gGoTogether T.FGoTogether.kp T.bGoTogether .nil pass0 (pa_cons (pe_ix ix_tup (pe_ix ix_list (pv 0) (pv 3) (fun _ _ => rfl)) pe_int (fun _ _ => rfl)) (pa_cons (pv 1) (pa_cons (pv 2) pa_nil)))))) (pss_one (ps_ret pe_non)) pss_nil))))
      (pss_one (ps_ret pe_non)), ?_⟩
    have hxl : xs.length = R.length := by rw [hx.len, List.length_map]
    refine ⟨_, rfl, l, xs, rfl, .inl hl, _, rfl, (by decide), (by decide), (by omega), (by omega), ?_⟩
    have en : (((xs.length : Nat) : Int) - 0).toNat = R.length := by omega
    rw [en]
    refine for_it walk_rangeC (fun i σ H' => ∃ v3, σ = [some (.ref l), some (.int p), some m, v3] ∧ Same H H' ∧ ∀ y ∈ R.drop (R.length - i), fr L y.1 p = true) ⟨none, rfl, Same.refl H, fun y hy => by simp at hy⟩ (fun _ _ _ _ _ => trivial) ?_ ?_
    · rintro i x σ H1 H2 hi ⟨v3, rfl, e1, hall⟩ ⟨rfl, rfl⟩
      obtain ⟨j, hj⟩ : ∃ j : Nat, j = R.length - 1 - i := ⟨_, rfl⟩
      have ex : (0 : Int) + (((R.length : Nat) : Int)) - 1 + (i : Nat) * (-1) = ((j : Nat) : Int) := by omega
      have hjR : R.length - i = j + 1 := by omega
      rw [hjR] at hall
      have hjl : j < R.length := by omega
      obtain ⟨y, hy⟩ : ∃ y, R[j]? = some y := ⟨R[j], List.getElem?_eq_getElem hjl⟩
      obtain ⟨v, hv, hd⟩ := hx.at (i := j) (d := pD y) (by rw [List.getElem?_map, hy]; rfl)
      obtain ⟨a, u, rfl, ha, hu⟩ := pD_inv (Dp.same e1 _ _ hd)
      show tSeq _ _ _ [some (V.ref l), some (V.int p), some m, some (V.int _)] _
      rw [ex]
      refine ⟨_, rfl, _, rfl, l, xs, _, _, rfl, rfl, e1.seq hl, atI_nat hv, a, _, _, _, rfl, rfl, ha, at0, _, rfl, rfl, _, rfl, ?_⟩
      refine ite2 (fun h => ?_) (fun h => ?_)
      · have hp : y.1 = p := V.int.inj (of_decide_eq_true h)
        refine ⟨_, rfl, k _ (some j) e1 (place_found C (b := y.2) (by rw [hy, ← hp]) hall)⟩
      · have hp : y.1 ≠ p := fun e => h (decide_eq_true (congrArg V.int e))
        refine ⟨_, rfl, _, rfl, l, xs, _, _, rfl, rfl, e1.seq hl, atI_nat hv, a, _, _, _, rfl, rfl, ha, at0, _, rfl, _, rfl, y.1, p, m, L, rfl, Dp.same e1 _ _ hm, fun H' e2 => ?_⟩
        refine ⟨_, rfl, ?_⟩
        refine ite2 (fun h => ?_) (fun h => ?_)
        · have hc : fr L y.1 p = false := by simpa using h
          exact k _ none (e1.trans e2) (place_stop C hy hp hc hall)
        · have hc : fr L y.1 p = true := by simpa using h
          refine ⟨_, rfl, e1.trans e2, fun z hz => ?_⟩
          have e3 : R.length - (i + 1) = j := by omega
          rw [e3, List.drop_eq_getElem_cons hjl] at hz
          rcases List.mem_cons.mp hz with rfl | hz
          · have : R[j] = y := Option.some.inj ((List.getElem?_eq_getElem hjl).symm.trans hy)
            rw [this]
            exact hc
          · exact hall z hz
    · rintro σ H' ⟨v3, rfl, e1, hall⟩
      exact k _ none e1 (place_out C fun y hy => hall y (by rw [Nat.sub_self]; exact hy))
end
end K26
end
section
set_option Elab.async false
set_option linter.all false
set_option maxRecDepth 100000
set_option maxHeartbeats 400000
/-! shortened -/
namespace K26
open PySem PySem.Spec PyProof.Rows L2
section
variable {P : Program} {w : World} {K : PySem.W.Frag} {mg : Str → Option Value} {base : Heap}
/-- a list of pairs at l -/
def PrsAt (K : PySem.W.Frag) (H : Hp) (l : Addr) (R : Rw) : Prop := ∃ xs, H l = some (.lst xs) ∧ DpAll K H xs (R.map pD)
theorem push_ok {K : PySem.W.Frag} {H H1 H4 : Hp} {l t : Addr} {ys : List V} {R : Rw} {p z : Int} {v6 : V} (hl : H l = none) (e4 : Same H H4) (k4 : KpT H1 H4) (h4 : H4 l = some (.lst ys)) (hys : DpAll K H4 ys (R.map pD)) (h6 : Dp K H4 v6 (fD z)) (ht : H4 t = none) :
    (upd H4 t (.tup [.int p, v6])) l = some (.lst ys) ∧ Same H (upd (upd H4 t (.tup [.int p, v6])) l (.lst (ys ++ [.ref t]))) ∧ KpT H1 (upd (upd H4 t (.tup [.int p, v6])) l (.lst (ys ++ [.ref t]))) ∧ PrsAt K (upd (upd H4 t (.tup [.int p, v6])) l (.lst (ys ++ [.ref t]))) l (R ++ [(p, z)]) := by
  have e5 : Same H4 (upd H4 t (.tup [.int p, v6])) := Same.new ht
  have h5 := e5 _ _ h4
  have k6 : KpT (upd H4 t (.tup [.int p, v6])) (upd (upd H4 t (.tup [.int p, v6])) l (.lst (ys ++ [.ref t]))) := KpT.upd_lst h5
  refine ⟨h5, Same.mut (e4.trans e5) hl, (k4.trans (KpT.of_same e5)).trans k6, _, upd_same, ?_⟩
  rw [List.map_append]
  refine DpAll.app (DpAll.kpt ((KpT.of_same e5).trans k6) _ _ (tupDs_p R) hys) (DpAll.one ?_)
  exact Dp.kpt k6 _ _ (tupD_p (p, z)) (.tup (SqT.of upd_same) (.two (.int _) (Dp.same e5 _ _ h6)))
theorem map_erase {α β : Type} (f : α → β) : ∀ (l : List α) (k : Nat), (l.map f).eraseIdx k = (l.eraseIdx k).map f
  | [], _ => by simp
  | _ :: _, 0 => by simp
  | x :: l, k + 1 => by rw [List.map_cons, List.eraseIdx_cons_succ, List.eraseIdx_cons_succ, List.map_cons, map_erase f l k]
theorem ne_zero_eq {z : Int} : (!PyData.eqv (fD z) (fD 0)) = true ↔ z ≠ 0 := by
  rw [eqv_f]
  by_cases h : z = 0 <;> simp [h]
def spShort (K : PySem.W.Frag) : Sp := fun vs H Q _ => ∃ (r m : V) (d : PyData) (row : Rw) (L : List (Int × Int)), vs = [r, m] ∧ Dp K H r d ∧ tupd d = rD row ∧ d.depth ≤ 4 ∧ okD d = true ∧ row.length ≤ 100 ∧ Dp K H m (mD L) ∧ Prop1 L ∧
  ∀ l H', Same H H' → H l = none → PrsAt K H' l (sR (fr L) row).reverse → Q (.ref l) H'
theorem dp_none (T : Tx K mg) {H : Hp} : Dp K H (.ref T.aNone) (fD 0) := by
  refine .tup (T.tNone H) ?_
  rw [fq_zero]
  exact .two (.int _) (.int _)
theorem ok_shortened (T : Tx K mg) : FnOk P w K mg base CX0 6 T.fShortened T.fdShortened ["row", "meets"] (spShort K) := by
  have G1 : FnOk P w K mg base CX0 5 T.fTupleOf T.fdTupleOf ["thing"] (spTupleOf K 4) := ok_tupleOf T 4
  have G2 : FnOk P w K mg base CX0 5 T.fPlaceToMeet T.fdPlaceToMeet ["pairs", "part", "meets"] (spPlace K) := (ok_placeToMeet T).mono (by decide)
  have G3 : FnOk P w K mg base CX0 5 T.fPlus T.fdPlus ["x", "y"] (spPlus K) := (ok_plus T).mono (by decide)
  refine ok0 T.FShortened scShortened (fun vs H Q E h => ?_) (fun cdv A outer s H vs Q E hr h => ?_)
  · obtain ⟨r, m, d, row, L, rfl, _⟩ := h
    rfl
  · obtain ⟨r, m, d, row, L, rfl, hd, hrow, hdep, hok, hlen, hm, hL, k⟩ := h
    have C := fr_com hL
    refine ⟨_, pss_cons (ps_set (i := 2) scShortened.nd rfl (Or.inl rfl) (pe_lst pa_nil))
      (pss_cons (ps_for PassesOwn.never rfl (pi_tup (pe_call G1 hr rfl T.gTupleOf T.FTupleOf.kp T.bTupleOf .nil pass0 (pa_cons (pv 0) pa_nil))) (pg_tup rfl (pgs_cons (pg_name (i := 3) scShortened.nd rfl (Or.inl rfl)) (pgs_cons (pg_name (i := 4) scShortened.nd rfl (Or.inl rfl)) pgs_nil)))
        (pss_cons (ps_set (i := 5) scShortened.nd rfl (Or.inl rfl) (pe_call G2 hr rfl T.gPlaceToMeet T.FPlaceToMeet.kp T.bPlaceToMeet .nil pass0 (pa_cons (pv 2) (pa_cons (pv 3) (pa_cons (pv 1) pa_nil)))))
        (pss_cons (ps_set (i := 6) scShortened.nd rfl (Or.inl rfl) (pe_ifExp (pt_cmpR op_isN (pv 5) pe_non (nomark _)) (pv 4) (pe_call G3 hr rfl T.gPlus T.FPlus.kp T.bPlus .nil pass0 (pa_cons (pe_ix ix_tup (pe_ix ix_list (pv 2) (pv 5) (fun _ _ => rfl)) pe_int (fun _ _ => rfl)) (pa_cons (pv 4) pa_nil)))))
        (pss_cons (ps_if (pt_cmpR op_notN (pv 5) pe_non (nomark _)) (pss_one (ps_expr (pe_bm PySem.F.plainAttrs_list PySem.F.slot_list_pop PySem.F.type_list_pop mt_popAt (pv 2) (pa_cons (pv 5) pa_nil)))) pss_nil)
        (pss_one (ps_if (pt_cmpR (op_neD (Room.u64 hr)) (pv 6) (pe_glob (v := .ref T.aNone) (by rfl) T.gNone rfl) (nomark _)) (pss_one (ps_expr (pe_bm PySem.F.plainAttrs_list PySem.F.slot_list_append PySem.F.type_list_append mt_append (pv 2) (pa_cons (pe_tup (pa_cons (pv 3) (pa_cons (pv 6) pa_nil))) pa_nil)))) pss_nil))))))
      (pss_one (ps_ret (pv 2)))), ?_⟩
    refine ⟨Nat.zero_le _, fun l hl => ?_⟩
    refine ⟨_, rfl, r, d, rfl, Dp.same (Same.new hl) _ _ hd, hdep, hok, fun v1 H1 e1 hv => ?_⟩
    rw [hrow] at hv
    obtain ⟨a, ps, rfl, ha, hps⟩ := hv.tup_inv
    refine ⟨a, rfl, ⟨ps, ha⟩, ?_⟩
    have e0 : Same H H1 := (Same.new hl).trans e1
    have hpl : ps.length = row.length := by rw [hps.len, List.length_map]
    refine for_it (walk_tup (xs := ps)) (fun i σ H' => ∃ v3 v4 v5 v6, σ = [some r, some m, some (.ref l), v3, v4, v5, v6] ∧ Same H H' ∧ KpT H1 H' ∧ PrsAt K H' l (sR (fr L) (row.take i)).reverse)
      ⟨none, none, none, none, rfl, e0, KpT.refl _, [], e1 _ _ upd_same, .nil⟩ (fun i σ H' _ ⟨_, _, _, _, _, _, e2, _⟩ => e2.seq ha) ?_ ?_
    · rintro i x σ H2 H3 hi ⟨v3, v4, v5, v6, rfl, e2, e3, xs, hxl, hxs⟩ ⟨rfl, hx⟩
      obtain ⟨d1, hd1, hdx⟩ := hps.get hx
      rw [List.getElem?_map] at hd1
      obtain ⟨y, hy, ey⟩ := Option.map_eq_some_iff.mp hd1
      subst ey
      obtain ⟨b, u, rfl, hb, hu⟩ := pD_inv (Dp.kpt e3 _ _ (tupD_p y) hdx)
      have hR : xs.length = (sR (fr L) (row.take i)).reverse.length := (DpAll.len hxs).trans (List.length_map _)
      have hR2 : (sR (fr L) (row.take i)).reverse.length ≤ 100 := by
        rw [List.length_reverse]
        refine Nat.le_trans (sR_len _) ?_
        rw [List.length_take]
        omega
      have hstep := sR_take (c := fr L) row i hy
      generalize hSS : sR (fr L) (row.take i) = S at hxs hR hR2 hstep
      refine ⟨b, _, rfl, hb, rfl, .int y.1, _, rfl, u, _, rfl, rfl, ?_⟩
      refine ⟨_, rfl, _, rfl, _, rfl, l, y.1, m, xs, S.reverse, L, rfl, SqL.of hxl, hxs, by omega, Dp.same e2 _ _ hm, hL, fun H4 o e4 hP => ?_⟩
      cases o with
      | none =>
        have hfin := stp_none hP
        refine ⟨_, rfl, rfl, _, rfl, ite2 (fun _ => ?_) (fun h => absurd (decide_eq_true rfl) h)⟩
        refine ⟨_, rfl, _, rfl, rfl, _, rfl, ite2 (fun h => absurd h (by simp [optV])) (fun _ => ?_)⟩
        have hl4 := e4 _ _ hxl
        have hu4 := Dp.same e4 _ _ hu
        have hxs4 := DpAll.same e4 _ _ hxs
        refine ⟨_, rfl, fD y.2, fD 0, hu4, dp_none T, shaped_f _, shaped_f _, _, rfl, ite2 (fun h => ?_) (fun h => ?_)⟩
        · have hz := ne_zero_eq.mp h
          rw [if_neg hz] at hfin
          refine ⟨_, rfl, .inl ⟨rfl, xs, SqL.of hl4⟩, _, rfl, _, rfl, (by show 2 ≤ sizeLine; decide), fun t ht => ?_⟩
          obtain ⟨q1, q2, q3, q4⟩ := push_ok (H1 := H1) (p := y.1) hl (e2.trans e4) (e3.trans (KpT.of_same e4)) hl4 hxs4 hu4 ht
          refine ⟨l, xs, .ref t, rfl, rfl, q1, lt_line (by omega), _, _, _, _, rfl, q2, q3, ?_⟩
          rw [hstep, hfin]
          exact q4
        · have hz : y.2 = 0 := Decidable.byContradiction fun z => h (ne_zero_eq.mpr z)
          rw [if_pos hz] at hfin
          refine ⟨_, _, _, _, rfl, e2.trans e4, e3.trans (KpT.of_same e4), xs, hl4, ?_⟩
          rw [hstep, hfin]
          exact hxs4
      | some q =>
        obtain ⟨z, hz, _⟩ := id hP
        have hfin := stp_some hP hz
        have hl4 := e4 _ _ hxl
        have hu4 := Dp.same e4 _ _ hu
        have hxs4 := DpAll.same e4 _ _ hxs
        obtain ⟨w1, hw1, hdw⟩ := hxs4.at (i := q) (d := pD (y.1, z)) (by rw [List.getElem?_map, hz]; rfl)
        obtain ⟨b2, u2, rfl, hb2, hu2⟩ := pD_inv hdw
        refine ⟨_, rfl, rfl, _, rfl, ite2 (fun h => absurd (of_decide_eq_true h) (fun e => nomatch e)) (fun _ => ?_)⟩
        refine ⟨_, rfl, _, rfl, l, xs, _, _, rfl, rfl, SqL.of hl4, atI_nat hw1, b2, _, _, _, rfl, rfl, hb2, at1, _, rfl, _, _, z, y.2, rfl, hu2, hu4, fun v6 H5 e5 h6 => ?_⟩
        have hl5 := e5 _ _ hl4
        have hxs5 := DpAll.same e5 _ _ hxs4
        have hq : q < xs.length := (List.getElem?_eq_some_iff.mp hw1).1
        refine ⟨_, rfl, rfl, _, rfl, ite2 (fun _ => ?_) (fun h => absurd (by rfl) h)⟩
        refine ⟨_, rfl, .inl ⟨rfl, xs, SqL.of hl5⟩, _, rfl, l, xs, _, q, _, rfl, rfl, hl5, by omega, by omega, ?_, hw1, ?_⟩
        · rw [seqIndex_of (Int.natCast_nonneg q) (by omega)]
          rfl
        have k6 : KpT H5 (upd H5 l (.lst (xs.eraseIdx q))) := KpT.upd_lst hl5
        have h66 := Dp.kpt k6 _ _ (tupD_f _) h6
        have hxs6 : DpAll K (upd H5 l (.lst (xs.eraseIdx q))) (xs.eraseIdx q) ((S.reverse.eraseIdx q).map pD) := by
          have h := DpAll.kpt k6 _ _ (tupDs_p _) hxs5
          have h2 := h.erase q
          rwa [map_erase] at h2
        have e6 : Same H (upd H5 l (.lst (xs.eraseIdx q))) := Same.mut ((e2.trans e4).trans e5) hl
        have k7 : KpT H1 (upd H5 l (.lst (xs.eraseIdx q))) := ((e3.trans (KpT.of_same e4)).trans (KpT.of_same e5)).trans k6
        have hle : (xs.eraseIdx q).length ≤ xs.length := len_erase xs q
        refine ⟨_, rfl, fD (z + y.2), fD 0, h66, dp_none T, shaped_f _, shaped_f _, _, rfl, ite2 (fun h => ?_) (fun h => ?_)⟩
        · have hz := ne_zero_eq.mp h
          simp only at hfin
          rw [if_neg hz] at hfin
          refine ⟨_, rfl, .inl ⟨rfl, _, SqL.of upd_same⟩, _, rfl, _, rfl, (by show 2 ≤ sizeLine; decide), fun t ht => ?_⟩
          obtain ⟨q1, q2, q3, q4⟩ := push_ok (H1 := H1) (p := y.1) hl e6 k7 upd_same hxs6 h66 ht
          refine ⟨l, _, .ref t, rfl, rfl, q1, lt_line (by omega), _, _, _, _, rfl, q2, q3, ?_⟩
          rw [hstep, hfin]
          exact q4
        · have hz : z + y.2 = 0 := Decidable.byContradiction fun z => h (ne_zero_eq.mpr z)
          simp only at hfin
          rw [if_pos hz] at hfin
          refine ⟨_, _, _, _, rfl, e6, k7, _, upd_same, ?_⟩
          rw [hstep, hfin]
          exact hxs6
    · rintro σ H' ⟨v3, v4, v5, v6, rfl, e2, e3, h⟩
      rw [hpl, List.take_length] at h
      exact ⟨_, rfl, k l H' e2 hl h⟩
end
end K26
end
section
set_option Elab.async false
set_option linter.all false
set_option maxRecDepth 100000
set_option maxHeartbeats 400000
/-! normal_row, is_same, first_places -/
namespace K26
open PySem PySem.Spec PyProof.Rows L2
/-- what the program may be given as a row: lists or tuples -/
def RowIn (K : PySem.W.Frag) (H : Hp) (v : V) (row : Rw) : Prop := ∃ d, Dp K H v d ∧ tupd d = rD row ∧ d.depth ≤ 4 ∧ okD d = true ∧ row.length ≤ 100
def MeetIn (K : PySem.W.Frag) (H : Hp) (v : V) (L : List (Int × Int)) : Prop := ∃ d, Dp K H v d ∧ tupd d = mD L ∧ d.depth ≤ 4 ∧ okD d = true ∧ Prop1 L
theorem RowIn.same {K : PySem.W.Frag} {H H' : Hp} {v : V} {row : Rw} (e : Same H H') (h : RowIn K H v row) : RowIn K H' v row := by
  obtain ⟨d, h1, h2⟩ := h
  exact ⟨d, Dp.same e _ _ h1, h2⟩
theorem MeetIn.same {K : PySem.W.Frag} {H H' : Hp} {v : V} {L : List (Int × Int)} (e : Same H H') (h : MeetIn K H v L) : MeetIn K H' v L := by
  obtain ⟨d, h1, h2⟩ := h
  exact ⟨d, Dp.same e _ _ h1, h2⟩
theorem RowIn.of {K : PySem.W.Frag} {H : Hp} {v : V} {row : Rw} (h : Dp K H v (rD row)) (hl : row.length ≤ 100) : RowIn K H v row :=
  ⟨_, h, tupd_id _ (tupD_r row), by have := depth_r row; omega, okD_r (by omega), hl⟩
theorem MeetIn.of {K : PySem.W.Frag} {H : Hp} {v : V} {L : List (Int × Int)} (h : Dp K H v (mD L)) (hl : L.length ≤ 100) (hp : Prop1 L) : MeetIn K H v L :=
  ⟨_, h, tupd_id _ (tupD_m L), by have := depth_m L; omega, okD_m (by omega), hp⟩
theorem cutV_take (xs : List V) (i : Nat) : cutV xs none (some (i : Int)) = xs.take i := by
  unfold cutV
  rw [HT.sIx_none, HT.sIx_nat, List.drop_zero, Nat.sub_zero, List.take_eq_take_iff]
  omega
theorem cutV_drop (xs : List V) (i : Nat) : cutV xs (some (i : Int)) none = xs.drop i := by
  unfold cutV
  rw [HT.sIx_none, HT.sIx_nat]
  by_cases h : i ≤ xs.length
  · rw [Nat.min_eq_left h, List.take_of_length_le]
    rw [List.length_drop]
    omega
  · rw [Nat.min_eq_right (by omega), List.drop_of_length_le (Nat.le_refl _), List.drop_of_length_le (by omega)]
    simp
section
variable {P : Program} {w : World} {K : PySem.W.Frag} {mg : Str → Option Value} {base : Heap}
theorem dp_nil_m {K : PySem.W.Frag} {H : Hp} {t : Addr} : Dp K (upd H t (.tup [])) (.ref t) (mD []) := .tup (SqT.of upd_same) .nil
theorem prop1_nil : Prop1 [] := fun p h => by cases h
def nR (row : Rw) : Rw := (sR (fr []) row).reverse
def spRow (K : PySem.W.Frag) : Sp := fun vs H Q _ => ∃ (r : V) (row : Rw), vs = [r] ∧ RowIn K H r row ∧ ∀ v H', Same H H' → Dp K H' v (rD (nR row)) → Q v H'
theorem ok_normalRow (T : Tx K mg) : FnOk P w K mg base CX0 7 T.fNormalRow T.fdNormalRow ["row"] (spRow K) := by
  have G : FnOk P w K mg base CX0 6 T.fShortened T.fdShortened ["row", "meets"] (spShort K) := ok_shortened T
  refine ok0 T.FNormalRow scNormalRow (fun vs H Q E h => ?_) (fun cdv A outer s H vs Q E hr h => ?_)
  · obtain ⟨r, row, rfl, _⟩ := h
    rfl
  · obtain ⟨r, row, rfl, ⟨d, h1, h2, h3, h4, h5⟩, k⟩ := h
    refine ⟨_, pss_one (ps_ret (pe_callTy call_tuple_of (by rfl) T.b_tuple PyProof.Rows.boot_tuple (pa_cons (pe_call G hr rfl T.gShortened T.FShortened.kp T.bShortened .nil pass0 (pa_cons (pv 0) (pa_cons (pe_tup pa_nil) pa_nil))) pa_nil))), ?_⟩
    refine ⟨_, rfl, Nat.zero_le _, fun t ht => ?_⟩
    have e0 : Same H (upd H t (.tup [])) := Same.new ht
    refine ⟨r, .ref t, d, row, [], rfl, Dp.same e0 _ _ h1, h2, h3, h4, h5, dp_nil_m, prop1_nil, fun l H' e1 hl h => ?_⟩
    obtain ⟨xs, hx, hd⟩ := h
    refine ⟨l, xs, rfl, .inl ⟨SqL.of hx, fun q hq => ?_⟩⟩
    exact k _ _ ((e0.trans e1).trans (Same.new hq)) (.tup (SqT.of upd_same) (DpAll.same (Same.new hq) _ _ hd))
def spIsSame (K : PySem.W.Frag) : Sp := fun vs H Q _ => ∃ (r o : V) (row oth : Rw), vs = [r, o] ∧ RowIn K H r row ∧ RowIn K H o oth ∧ ∀ H', Same H H' → Q (.bl (decide (nR row = nR oth))) H'
theorem ok_isSame (T : Tx K mg) : FnOk P w K mg base CX0 8 T.fIsSame T.fdIsSame ["row", "other"] (spIsSame K) := by
  have G : FnOk P w K mg base CX0 7 T.fNormalRow T.fdNormalRow ["row"] (spRow K) := ok_normalRow T
  refine ok0 T.FIsSame scIsSame (fun vs H Q E h => ?_) (fun cdv A outer s H vs Q E hr h => ?_)
  · obtain ⟨r, o, row, oth, rfl, _⟩ := h
    rfl
  · obtain ⟨r, o, row, oth, rfl, h1, h2, k⟩ := h
    refine ⟨_, pss_one (ps_ret (pe_cmpR (op_eqD (Room.u64 hr)) (pe_call G hr rfl T.gNormalRow T.FNormalRow.kp T.bNormalRow .nil pass0 (pa_cons (pv 0) pa_nil)) (pe_call G hr rfl T.gNormalRow T.FNormalRow.kp T.bNormalRow .nil pass0 (pa_cons (pv 1) pa_nil)) (nomark _))), ?_⟩
    refine ⟨_, rfl, r, row, rfl, h1, fun v1 H1 e1 d1 => ?_⟩
    refine ⟨_, rfl, o, oth, rfl, h2.same e1, fun v2 H2 e2 d2 => ?_⟩
    refine ⟨_, _, Dp.same e2 _ _ d1, d2, shaped_r _, shaped_r _, ?_⟩
    rw [eqv_r]
    exact k H2 (e1.trans e2)
def spFirst (K : PySem.W.Frag) : Sp := fun vs H Q _ => ∃ (l : Addr) (m : V) (xs : List V) (R : Rw) (L : List (Int × Int)), vs = [.ref l, m] ∧ SqL K H l xs ∧ DpAll K H xs (R.map pD) ∧ R.length ≤ 1000 ∧ Dp K H m (mD L) ∧
  ∀ f H', Same H H' → H f = none → H' f = some (.lst ((plAll (fr L) R).map fun k => V.int (k : Nat))) → Q (.ref f) H'
theorem all_take {c : Int → Int → Bool} {R : Rw} {i : Nat} {x : Lt} (h : R[i]? = some x) : (((R.take i).map fun y => c x.1 y.1).all id) = okAt c R i := by
  unfold okAt
  rw [h, List.all_map]
  rfl
theorem ok_firstPlaces (T : Tx K mg) : FnOk P w K mg base CX0 2 T.fFirstPlaces T.fdFirstPlaces ["pairs", "meets"] (spFirst K) := by
  have G : FnOk P w K mg base CX0 1 T.fGoTogether T.fdGoTogether ["one", "two", "meets"] (spGo K) := ok_goTogether T
  refine ok0 T.FFirstPlaces scFirstPlaces (fun vs H Q E h => ?_) (fun cdv A outer s H vs Q E hr h => ?_)
  · obtain ⟨l, m, xs, R, L, rfl, _⟩ := h
    rfl
  · obtain ⟨l, m, xs, R, L, rfl, hl, hx, hlen, hm, k⟩ := h
    refine ⟨_, pss_cons (ps_set (i := 2) scFirstPlaces.nd rfl (Or.inl rfl) (pe_lst pa_nil))
      (pss_cons (ps_for PassesOwn.never rfl (pi_enum (by rfl) T.b_enumerate (pa_cons (pv 0) pa_nil)) (pg_tup rfl (pgs_cons (pg_name (i := 3) scFirstPlaces.nd rfl (Or.inl rfl)) (pgs_cons (pg_tup rfl (pgs_cons (pg_name (i := 4) scFirstPlaces.nd rfl (Or.inr rfl)) (pgs_cons (pg_name (i := 5) scFirstPlaces.nd rfl (Or.inl rfl)) pgs_nil))) pgs_nil)))
        (pss_one (ps_if (pt_val (pe_callB (cr_all rfl) (by rfl) T.b_all PyProof.Rows.boot_all (pa_cons (pe_lc (own := [("other", 6), ("_", 5)]) (g := gTup K 2 (gCons (gName 6) (gCons (gName 5) gNil))) (tt := tYes) (by rfl) scFirstPlaces.nd (pi_list (pe_slice sl_list (pv 0) po_none (po_some (pv 3)))) (blkOk_by (N := nFirstPlaces) (sc := defScope sFirstPlaces) (by decide +kernel))
          (fun _ _ _ _ _ => pg_tup rfl (pgs_cons (pg_name (i := 6) scFirstPlaces.nd rfl (Or.inl rfl)) (pgs_cons (pg_name (i := 5) scFirstPlaces.nd rfl (Or.inl rfl)) pgs_nil))) (fun _ _ _ _ _ => pts_nil)
          (fun _ _ _ _ _ => pe_call G hr rfl T.gGoTogether T.FGoTogether.kp T.bGoTogether .nil pass0 (pa_cons (pv 4) (pa_cons (pv 6) (pa_cons (pv 1) pa_nil))))) pa_nil)))
          (pss_one (ps_expr (pe_bm PySem.F.plainAttrs_list PySem.F.slot_list_append PySem.F.type_list_append mt_append (pv 2) (pa_cons (pv 3) pa_nil)))) pss_nil)))
      (pss_one (ps_ret (pv 2)))), ?_⟩
    refine ⟨Nat.zero_le _, fun f hf => ?_⟩
    have e0 : Same H (upd H f (.lst [])) := Same.new hf
    have hxl : xs.length = R.length := by rw [hx.len, List.length_map]
    refine ⟨_, rfl, l, xs, rfl, e0.seq hl, ?_⟩
    refine for_it (walk_enum (xs := xs)) (fun i σ H' => ∃ v3 v4 v5 v6, σ = [some (.ref l), some m, some (.ref f), v3, v4, v5, v6] ∧ Same H H' ∧ H' f = some (.lst ((plTo (fr L) R i).map fun k => V.int (k : Nat)))) ⟨none, none, none, none, rfl, e0, upd_same⟩ (fun i σ H' _ ⟨_, _, _, _, _, e1, _⟩ => e1.seq hl) ?_ ?_
    · rintro i x σ H1 H2 hi ⟨v3, v4, v5, v6, rfl, e1, hfl⟩ ⟨t, x1, x2, rfl, ht, rfl, hx1, hx2⟩
      cases hx1
      obtain ⟨d1, hd1, hdx⟩ := hx.get hx2
      rw [List.getElem?_map] at hd1
      obtain ⟨y, hy, ey⟩ := Option.map_eq_some_iff.mp hd1
      subst ey
      have e2 : Same H1 (upd H1 t (.tup [.int (i : Nat), x2])) := Same.new ht
      have e3 := e1.trans e2
      obtain ⟨b, u, rfl, hb, hu⟩ := pD_inv (Dp.same e3 _ _ hdx)
      have hf2 := e2 _ _ hfl
      have ht2 : (upd H1 t (.tup [.int (i : Nat), .ref b])) t = some (.tup [.int (i : Nat), .ref b]) := upd_same
      generalize upd H1 t (.tup [.int (i : Nat), V.ref b]) = H2 at e2 e3 hb hu hf2 ht2 ⊢
      refine ⟨t, _, rfl, SqT.of ht2, rfl, _, _, rfl, _, _, rfl, b, _, rfl, hb, rfl, _, _, rfl, _, _, rfl, rfl, rfl, ?_⟩
      refine ⟨_, rfl, _, rfl, _, rfl, l, xs, rfl, e3.seq hl, fun p hp => ⟨p, rfl, ⟨_, SqL.of upd_same⟩, fun D hD => ?_⟩⟩
      rw [cutV_take] at hD ⊢
      have e4 : Same H2 (upd H2 p (.lst (xs.take i))) := Same.new hp
      have hxi : DpAll K (upd H2 p (.lst (xs.take i))) (xs.take i) ((R.take i).map pD) := by
        rw [List.map_take]
        exact (DpAll.same (e3.trans e4) _ _ hx).take i
      have hp2 : (upd H2 p (.lst (xs.take i))) p = some (.lst (xs.take i)) := upd_same
      generalize upd H2 p (.lst (xs.take i)) = H3 at e4 hxi hp2 hD ⊢
      refine lc_pure (K := K) (walk_list (K := K) (a := p) (xs := xs.take i)) ((R.take i).map fun z => some (.bool (fr L y.1 z.1))) (by rw [List.length_map, List.length_take, List.length_take, hxl]) (le_line (by rw [List.length_take]; omega)) hD (fun H' e => e.seq (SqL.of hp2)) YAt.same (fun j z H4 H5 o ho e5 yy acc RR Z hR hZ => ?_) fun H4 acc e5 hacc hall => ?_
      · obtain ⟨rfl, hz⟩ := yy
        obtain ⟨d2, hd2, hdz⟩ := hxi.get hz
        rw [List.getElem?_map] at hd2
        obtain ⟨y2, hy2, ey⟩ := Option.map_eq_some_iff.mp hd2
        subst ey
        rw [List.getElem?_map, hy2] at ho
        have eo : o = some (.bool (fr L y.1 y2.1)) := (Option.some.inj ho).symm
        obtain ⟨b2, u2, rfl, hb2, hu2⟩ := pD_inv (Dp.same e5 _ _ hdz)
        refine ⟨b2, _, rfl, hb2, rfl, _, _, rfl, _, _, rfl, rfl, rfl, ?_⟩
        refine ⟨_, rfl, _, rfl, _, rfl, y.1, y2.1, m, L, rfl, Dp.same ((e3.trans e4).trans e5) _ _ hm, fun H6 e6 => ?_⟩
        exact hR _ _ _ eo e6 fun H' _ => .bl _
      · rw [filterMap_some] at hall
        have hac := dpAll_bools (ns := (R.take i).map fun z => fr L y.1 z.1) (by rw [List.map_map]; exact hall H4 (But.refl _ _))
        refine ⟨D, _, rfl, SqL.of (by rw [hacc, hac]), _, rfl, ?_⟩
        rw [all_take hy]
        have e6 := (e3.trans e4).trans e5
        have hf4 := (e4.trans e5) _ _ hf2
        have hsuc := plTo_succ (c := fr L) R i
        refine ite2 (fun h => ?_) (fun h => ?_)
        · rw [if_pos h] at hsuc
          refine ⟨_, rfl, .inl ⟨rfl, _, SqL.of hf4⟩, _, rfl, f, _, _, rfl, rfl, hf4, ?_, _, _, _, _, rfl, Same.mut e6 hf, ?_⟩
          · rw [List.length_map]
            exact lt_line (Nat.lt_of_le_of_lt (plTo_len R i) (by omega))
          · rw [hsuc, List.map_append]
            exact upd_same
        · rw [if_neg h, List.append_nil] at hsuc
          refine ⟨_, _, _, _, rfl, e6, ?_⟩
          rw [hsuc]
          exact hf4
    · rintro σ H' ⟨v3, v4, v5, v6, rfl, e1, hfl⟩
      refine ⟨_, rfl, k f H' e1 hf ?_⟩
      rw [hxl] at hfl
      exact hfl
end
end K26
end
section
set_option Elab.async false
set_option linter.all false
set_option maxRecDepth 100000
set_option maxHeartbeats 400000
/-! least_order, normal_with, is_same_with -/
namespace K26
open PySem PySem.Spec PyProof.Rows L2
section
variable {P : Program} {w : World} {K : PySem.W.Frag} {mg : Str → Option Value} {base : Heap}
def spLeast (K : PySem.W.Frag) : Sp := fun vs H Q _ => ∃ (l : Addr) (m : V) (xs : List V) (R : Rw) (L : List (Int × Int)), vs = [.ref l, m] ∧ SqL K H l xs ∧ DpAll K H xs (R.map pD) ∧ R.length ≤ 1000 ∧ Dp K H m (mD L) ∧ Prop1 L ∧
  ∀ v H', Same H H' → Dp K H' v (rD (lOrd (fr L) R)) → Q v H'
def len2 (σ : L2.St) (H : Hp) : Nat := match σ[2]? with
  | some (some (V.ref a)) => match H a with
    | some (.lst xs) => xs.length
    | _ => 0
  | _ => 0
/-- the part at k -/
def prt (R : Rw) (k : Nat) : Int := match R[k]? with
  | some y => y.1
  | none => 0
theorem prt_of {R : Rw} {k : Nat} {y : Lt} (h : R[k]? = some y) : prt R k = y.1 := by unfold prt; rw [h]
theorem ok_leastOrder (T : Tx K mg) : FnOk P w K mg base CX0 3 T.fLeastOrder T.fdLeastOrder ["pairs", "meets"] (spLeast K) := by
  have G : FnOk P w K mg base CX0 2 T.fFirstPlaces T.fdFirstPlaces ["pairs", "meets"] (spFirst K) := ok_firstPlaces T
  refine ok0 T.FLeastOrder scLeastOrder (fun vs H Q E h => ?_) (fun cdv A outer s H vs Q E hr h => ?_)
  · obtain ⟨l, m, xs, R, L, rfl, _⟩ := h
    rfl
  · obtain ⟨l, m, xs, R0, L, rfl, hl, hx, hlen, hm, hL, k⟩ := h
    have C := fr_com hL
    refine ⟨_, pss_cons (ps_asg (pe_tup (pa_cons (pe_callTy call_list_of (by rfl) T.b_list PyProof.Rows.boot_list (pa_cons (pv 0) pa_nil)) (pa_cons (pe_lst pa_nil) pa_nil))) (pg_tup rfl (pgs_cons (pg_name (i := 2) scLeastOrder.nd rfl (Or.inr rfl)) (pgs_cons (pg_name (i := 3) scLeastOrder.nd rfl (Or.inl rfl)) pgs_nil))))
      (pss_cons (ps_while PassesOwn.never (pt_cmpR op_gt (pe_callB call_len_seq (by rfl) T.b_len PySem.boot_len (pa_cons (pv 2) pa_nil)) pe_int (nomark _))
        (pss_cons (ps_set (i := 4) scLeastOrder.nd rfl (Or.inl rfl) (pe_ix ix_tup (pe_callB (cr_minP rfl (Room.u64 hr)) (by rfl) T.b_min PyProof.Rows.boot_min (pa_cons (pe_lc (own := [("place", 4)]) (g := gName 4) (tt := tYes) (by rfl) scLeastOrder.nd (pi_list (pe_call G hr rfl T.gFirstPlaces T.FFirstPlaces.kp T.bFirstPlaces .nil pass0 (pa_cons (pv 2) (pa_cons (pv 1) pa_nil)))) (blkOk_by (N := nLeastOrder) (sc := defScope sLeastOrder) (by decide +kernel))
            (fun _ _ _ _ _ => pg_name (i := 4) scLeastOrder.nd rfl (Or.inl rfl)) (fun _ _ _ _ _ => pts_nil)
            (fun _ _ _ _ _ => pe_tup (pa_cons (pe_ix (r := rIxT K) ix_tup (pe_ix (r := rIxL K) ix_list (pv 2) (pv 4) (fun _ _ => rfl)) pe_int (fun _ _ => rfl)) (pa_cons (pv 4) pa_nil)))) pa_nil)) pe_int (fun _ _ => rfl)))
        (pss_one (ps_expr (pe_bm PySem.F.plainAttrs_list PySem.F.slot_list_append PySem.F.type_list_append mt_append (pv 3) (pa_cons (pe_bm PySem.F.plainAttrs_list PySem.F.slot_list_pop PySem.F.type_list_pop mt_popAt (pv 2) (pa_cons (pv 4) pa_nil)) pa_nil))))))
      (pss_one (ps_ret (pe_callTy call_tuple_of (by rfl) T.b_tuple PyProof.Rows.boot_tuple (pa_cons (pv 3) pa_nil))))), ?_⟩
    refine ⟨_, rfl, l, xs, rfl, .inl hl, fun a ha => ⟨Nat.zero_le _, fun f hf => ⟨(by show 2 ≤ sizeLine; decide), fun t ht => ?_⟩⟩⟩
    have ea : Same H (upd H a (.lst xs)) := Same.new ha
    have ef : Same (upd H a (.lst xs)) (upd (upd H a (.lst xs)) f (.lst [])) := Same.new hf
    have et : Same (upd (upd H a (.lst xs)) f (.lst [])) (upd (upd (upd H a (.lst xs)) f (.lst [])) t (.tup [.ref a, .ref f])) := Same.new ht
    have e0 := (ea.trans ef).trans et
    have hfH : H f = none := by
      cases q : H f with
      | none => rfl
      | some o => rw [ea f o q] at hf; cases hf
    have naf : a ≠ f := fun e => by
      rw [← e, upd_same] at hf
      cases hf
    have ha0 := et _ _ (ef _ _ (upd_same (H := H) (a := a) (o := HO.lst xs)))
    have hf0 := et _ _ (upd_same (H := upd H a (.lst xs)) (a := f) (o := HO.lst []))
    have ht0 : (upd (upd (upd H a (.lst xs)) f (.lst [])) t (.tup [.ref a, .ref f])) t = some (.tup [.ref a, .ref f]) := upd_same
    generalize upd (upd (upd H a (.lst xs)) f (.lst [])) t (.tup [.ref a, .ref f]) = H0 at e0 ha0 hf0 ht0 ⊢
    refine ⟨t, _, rfl, SqT.of ht0, rfl, _, _, rfl, _, _, rfl, rfl, ?_⟩
    refine while_by (fun σ H' => ∃ v4 R F, σ = [some (.ref l), some m, some (.ref a), some (.ref f), v4] ∧ Same H H' ∧ PrsAt K H' a R ∧ PrsAt K H' f F ∧ F ++ lOrd (fr L) R = lOrd (fr L) R0 ∧ F.length + R.length ≤ 1000) len2
      ⟨none, R0, [], rfl, e0, ⟨xs, ha0, DpAll.same e0 _ _ hx⟩, ⟨[], hf0, .nil⟩, rfl, by simpa using hlen⟩ ?_ ?_
    · rintro σ H1 ⟨v4, R, F, rfl, e1, ⟨xa, hxa, hda⟩, ⟨xf, hxf, hdf⟩, hE, hln⟩
      have hal : xa.length = R.length := by rw [hda.len, List.length_map]
      have hfl : xf.length = F.length := by rw [hdf.len, List.length_map]
      refine ⟨_, rfl, a, xa, rfl, .inl (SqL.of hxa), _, _, rfl, rfl, _, rfl, ?_⟩
      refine ite2 (fun h => ?_) (fun h => ?_)
      · have hpos : 0 < R.length := by
          have : (0 : Int) < (xa.length : Int) := of_decide_eq_true h
          omega
        have hne : R ≠ [] := fun e => by rw [e] at hpos; exact Nat.lt_irrefl _ hpos
        refine ⟨_, rfl, _, rfl, a, m, xa, R, L, rfl, SqL.of hxa, hda, by omega, Dp.same e1 _ _ hm, fun g H2 e2 hg hgl => ⟨g, rfl, ⟨_, SqL.of hgl⟩, fun D hD => ?_⟩⟩
        have hal2 : ((plAll (fr L) R).map fun k => V.int (k : Nat)).length ≤ 1000 := by
          rw [List.length_map]
          exact Nat.le_trans (plTo_len R _) (by omega)
        refine lc_pure (K := K) (walk_list (K := K) (a := g) (xs := (plAll (fr L) R).map fun k => V.int (k : Nat))) ((plAll (fr L) R).map fun k => some (pairI (prt R k, ((k : Nat) : Int)))) (by rw [List.length_map, List.length_map]) (le_line (by omega)) hD (fun H' e => e.seq (SqL.of hgl)) YAt.same (fun j z H4 H5 o ho e5 yy acc RR Z hR hZ => ?_) fun H4 acc e5 hacc hall => ?_
        · obtain ⟨rfl, hz⟩ := yy
          rw [List.getElem?_map] at hz ho
          obtain ⟨q, hq, ez⟩ := Option.map_eq_some_iff.mp hz
          subst ez
          rw [hq] at ho
          have eo : o = some (pairI (prt R q, ((q : Nat) : Int))) := (Option.some.inj ho).symm
          have hmem := mem_plAll.mp (List.mem_of_getElem? hq)
          obtain ⟨y, hy⟩ : ∃ y, R[q]? = some y := ⟨R[q]'hmem.1, List.getElem?_eq_getElem hmem.1⟩
          have e6 := e2.trans e5
          obtain ⟨v, hv, hdv⟩ := hda.at (i := q) (d := pD y) (by rw [List.getElem?_map, hy]; rfl)
          obtain ⟨b, u, rfl, hb, hu⟩ := pD_inv (Dp.same e6 _ _ hdv)
          refine ⟨rfl, ?_⟩
          refine ⟨_, rfl, _, rfl, a, xa, _, _, rfl, rfl, SqL.of (e6 _ _ hxa), atI_nat hv, b, _, _, _, rfl, rfl, hb, at0, _, rfl, (by show 2 ≤ sizeLine; decide), fun p hp => ?_⟩
          obtain ⟨acc, hacc⟩ := acc
          refine hR _ _ _ eo (Same.new hp) (Rob.tup ?_ (tupD_pairI _) ((Same.new hp) _ _ hacc))
          rw [prt_of hy]
          exact .tup (SqT.of upd_same) (.two (.int _) (.int _))
        · rw [filterMap_some] at hall
          have hac := hall H4 (But.refl _ _)
          have e6 := e2.trans e5
          refine ⟨D, acc, (plAll (fr L) R).map fun k => (prt R k, ((k : Nat) : Int)), rfl, SqL.of hacc, by rw [List.map_map]; exact hac, fun z => plAll_ne C hne (List.map_eq_nil_iff.mp z), fun x p hx hp hle => ?_⟩
          obtain ⟨q, hq, rfl⟩ := List.mem_map.mp hp
          have hmem := mem_plAll.mp hq
          obtain ⟨y, hy⟩ : ∃ y, R[q]? = some y := ⟨R[q]'hmem.1, List.getElem?_eq_getElem hmem.1⟩
          have hstep := lOrd_at C hq hy fun j z hj hz => by
            have h1 := hle (prt R j, ((j : Nat) : Int)) (List.mem_map.mpr ⟨j, hj, rfl⟩)
            unfold le2 at h1
            simp only at h1
            rw [prt_of hy, prt_of hz] at h1
            omega
          obtain ⟨b, zs, rfl, hb, hzs⟩ := hx.tup_inv
          obtain ⟨z1, z2, rfl, hz1, hz2⟩ := hzs.two_inv
          rw [hz1.int_inv, hz2.int_inv] at hb
          have hxa4 := e6 _ _ hxa
          have hxf4 := e6 _ _ hxf
          refine ⟨b, _, _, _, rfl, rfl, hb, at1, ?_⟩
          obtain ⟨v, hv, hdv⟩ := hda.at (i := q) (d := pD y) (by rw [List.getElem?_map, hy]; rfl)
          have hqx : q < xa.length := (List.getElem?_eq_some_iff.mp hv).1
          refine ⟨_, rfl, .inl ⟨rfl, _, SqL.of hxf4⟩, _, rfl, .inl ⟨rfl, _, SqL.of hxa4⟩, _, rfl, a, xa, _, q, v, rfl, rfl, hxa4, by omega, by omega, ?_, hv, ?_⟩
          · rw [seqIndex_of (Int.natCast_nonneg q) (by omega)]
            rfl
          have k1 : KpT H4 (upd H4 a (.lst (xa.eraseIdx q))) := KpT.upd_lst hxa4
          have hxf5 : (upd H4 a (.lst (xa.eraseIdx q))) f = some (.lst xf) := by rw [upd_ne (Ne.symm naf)]; exact hxf4
          have k2 : KpT (upd H4 a (.lst (xa.eraseIdx q))) (upd (upd H4 a (.lst (xa.eraseIdx q))) f (.lst (xf ++ [v]))) := KpT.upd_lst hxf5
          have k3 := ((KpT.of_same e6).trans k1).trans k2
          refine ⟨f, xf, v, rfl, rfl, hxf5, lt_line (by omega), ⟨_, R.eraseIdx q, F ++ [y], rfl, Same.mut (Same.mut (e1.trans e6) ha) hfH, ⟨_, by rw [upd_ne naf]; exact upd_same, ?_⟩, ⟨_, upd_same, ?_⟩, ?_, ?_⟩, ?_⟩
          · have h2 := (DpAll.kpt k3 _ _ (tupDs_p _) hda).erase q
            rwa [map_erase] at h2
          · rw [List.map_append]
            exact DpAll.app (DpAll.kpt k3 _ _ (tupDs_p _) hdf) (DpAll.one (Dp.kpt k3 _ _ (tupD_p y) hdv))
          · rw [List.append_assoc, List.singleton_append, ← hstep]
            exact hE
          · rw [List.length_append, List.length_eraseIdx_of_lt hmem.1]
            simp only [List.length_singleton]
            omega
          · show len2 [_, _, some (V.ref a), _, _] _ < len2 [_, _, some (V.ref a), _, _] _
            have q1 : (upd (upd H4 a (.lst (xa.eraseIdx q))) f (.lst (xf ++ [v]))) a = some (.lst (xa.eraseIdx q)) := by rw [upd_ne naf]; exact upd_same
            unfold len2
            simp only [List.getElem?_cons_succ, List.getElem?_cons_zero]
            rw [q1, hxa]
            simp only
            rw [List.length_eraseIdx_of_lt hqx]
            omega
      · have hz : R = [] := by
          have : ¬ (0 : Int) < (xa.length : Int) := fun z => h (decide_eq_true z)
          exact List.length_eq_zero_iff.mp (by omega)
        subst hz
        rw [lOrd_nil, List.append_nil] at hE
        subst hE
        refine ⟨_, rfl, f, xf, rfl, .inl ⟨SqL.of hxf, fun p hp => ?_⟩⟩
        exact k _ _ (e1.trans (Same.new hp)) (.tup (SqT.of upd_same) (DpAll.same (Same.new hp) _ _ hdf))
    · rintro σ H' Q1 Q2 hq ⟨v, e, p, ys, e1, e2, i, j, e3, e4, b, e5, q⟩
      exact ⟨v, e, p, ys, e1, e2, i, j, e3, e4, b, e5, hq _ _ q⟩
def spNormW (K : PySem.W.Frag) : Sp := fun vs H Q _ => ∃ (r m : V) (row : Rw) (L : List (Int × Int)), vs = [r, m] ∧ RowIn K H r row ∧ MeetIn K H m L ∧ ∀ v H', Same H H' → Dp K H' v (rD (nf (fr L) row)) → Q v H'
theorem ok_normalWith (T : Tx K mg) : FnOk P w K mg base CX0 7 T.fNormalWith T.fdNormalWith ["row", "meets"] (spNormW K) := by
  have G1 : FnOk P w K mg base CX0 6 T.fTupleOf T.fdTupleOf ["thing"] (spTupleOf K 4) := (ok_tupleOf T 4).mono (by decide)
  have G2 : FnOk P w K mg base CX0 6 T.fShortened T.fdShortened ["row", "meets"] (spShort K) := ok_shortened T
  have G3 : FnOk P w K mg base CX0 6 T.fLeastOrder T.fdLeastOrder ["pairs", "meets"] (spLeast K) := (ok_leastOrder T).mono (by decide)
  refine ok0 T.FNormalWith scNormalWith (fun vs H Q E h => ?_) (fun cdv A outer s H vs Q E hr h => ?_)
  · obtain ⟨r, m, row, L, rfl, _⟩ := h
    rfl
  · obtain ⟨r, m, row, L, rfl, ⟨d, h1, h2, h3, h4, h5⟩, ⟨e, g1, g2, g3, g4, g5⟩, k⟩ := h
    refine ⟨_, pss_cons (ps_set (i := 2) scNormalWith.nd rfl (Or.inl rfl) (pe_call G1 hr rfl T.gTupleOf T.FTupleOf.kp T.bTupleOf .nil pass0 (pa_cons (pv 1) pa_nil)))
      (pss_one (ps_ret (pe_call G3 hr rfl T.gLeastOrder T.FLeastOrder.kp T.bLeastOrder .nil pass0 (pa_cons (pe_call G2 hr rfl T.gShortened T.FShortened.kp T.bShortened .nil pass0 (pa_cons (pv 0) (pa_cons (pv 2) pa_nil))) (pa_cons (pv 2) pa_nil))))), ?_⟩
    refine ⟨_, rfl, m, e, rfl, g1, g3, g4, fun v1 H1 e1 d1 => ?_⟩
    rw [g2] at d1
    refine ⟨_, rfl, _, rfl, r, v1, d, row, L, rfl, Dp.same e1 _ _ h1, h2, h3, h4, h5, d1, g5, fun l H2 e2 hl hp => ?_⟩
    obtain ⟨xs, hx, hd⟩ := hp
    refine ⟨_, rfl, l, v1, xs, _, L, rfl, SqL.of hx, hd, ?_, Dp.same e2 _ _ d1, g5, fun v H3 e3 hv => k v H3 ((e1.trans e2).trans e3) hv⟩
    rw [List.length_reverse]
    exact Nat.le_trans (sR_len _) (by omega)
def spSameW (K : PySem.W.Frag) : Sp := fun vs H Q _ => ∃ (r o m : V) (row oth : Rw) (L : List (Int × Int)), vs = [r, o, m] ∧ RowIn K H r row ∧ RowIn K H o oth ∧ MeetIn K H m L ∧ ∀ H', Same H H' → Q (.bl (decide (nf (fr L) row = nf (fr L) oth))) H'
theorem ok_isSameWith (T : Tx K mg) : FnOk P w K mg base CX0 8 T.fIsSameWith T.fdIsSameWith ["row", "other", "meets"] (spSameW K) := by
  have G : FnOk P w K mg base CX0 7 T.fNormalWith T.fdNormalWith ["row", "meets"] (spNormW K) := ok_normalWith T
  refine ok0 T.FIsSameWith scIsSameWith (fun vs H Q E h => ?_) (fun cdv A outer s H vs Q E hr h => ?_)
  · obtain ⟨r, o, m, row, oth, L, rfl, _⟩ := h
    rfl
  · obtain ⟨r, o, m, row, oth, L, rfl, h1, h2, h3, k⟩ := h
    refine ⟨_, pss_one (ps_ret (pe_cmpR (op_eqD (Room.u64 hr)) (pe_call G hr rfl T.gNormalWith T.FNormalWith.kp T.bNormalWith .nil pass0 (pa_cons (pv 0) (pa_cons (pv 2) pa_nil))) (pe_call G hr rfl T.gNormalWith T.FNormalWith.kp T.bNormalWith .nil pass0 (pa_cons (pv 1) (pa_cons (pv 2) pa_nil))) (nomark _))), ?_⟩
    refine ⟨_, rfl, _, rfl, r, m, row, L, rfl, h1, h3, fun v1 H1 e1 d1 => ?_⟩
    refine ⟨_, rfl, _, rfl, o, m, oth, L, rfl, h2.same e1, h3.same e1, fun v2 H2 e2 d2 => ?_⟩
    refine ⟨_, _, Dp.same e2 _ _ d1, d2, shaped_r _, shaped_r _, ?_⟩
    rw [eqv_r]
    exact k H2 (e1.trans e2)
end
end K26
end
section
set_option Elab.async false
set_option linter.all false
set_option maxRecDepth 100000
set_option maxHeartbeats 400000
/-! _law_box, _law_take, _law_cells -/
namespace K26
open PySem PySem.Spec PyProof.Rows L2
section
variable {P : Program} {w : World} {K : PySem.W.Frag} {mg : Str → Option Value} {base : Heap}
/-- an urn after n draws -/
def UrnAt (H : Hp) (l : Addr) (n : Nat) : Prop := ∃ a b c : Int, H l = some (.lst [.int a, .int b, .int c]) ∧ 0 ≤ a ∧ 0 ≤ b ∧ b < 2 ^ 62 ∧ 0 ≤ c ∧ c ≤ (n : Nat)
theorem UrnAt.same {H H' : Hp} {l : Addr} {n : Nat} (e : Same H H') (h : UrnAt H l n) : UrnAt H' l n := by
  obtain ⟨a, b, c, h1, h2⟩ := h
  exact ⟨a, b, c, e _ _ h1, h2⟩
theorem UrnAt.mono {H : Hp} {l : Addr} {n m : Nat} (h : UrnAt H l n) (g : n ≤ m) : UrnAt H l m := by
  obtain ⟨a, b, c, h1, h2, h3, h4, h5, h6⟩ := h
  exact ⟨a, b, c, h1, h2, h3, h4, h5, by omega⟩
theorem at30 {α : Type} {x y z : α} : atI [x, y, z] (0 : Int) = some x := rfl
theorem at31 {α : Type} {x y z : α} : atI [x, y, z] (1 : Int) = some y := rfl
theorem at32 {α : Type} {x y z : α} : atI [x, y, z] (2 : Int) = some z := rfl
theorem ite01 (p : Prop) [Decidable p] : 0 ≤ (if p then (1 : Int) else 0) ∧ -(2 ^ 64) < (if p then (1 : Int) else 0) ∧ (if p then (1 : Int) else 0) < 2 ^ 64 := by
  by_cases h : p
  · rw [if_pos h]; decide
  · rw [if_neg h]; decide
def spBox (K : PySem.W.Frag) : Sp := fun vs H Q _ => ∃ (l : Addr) (ns : List Int) (k : Nat), vs = [.ref l, .int (k : Nat)] ∧ SqL K H l (ns.map V.int) ∧ k ≤ 2 ∧ ∀ u H', Same H H' → H u = none → UrnAt H' u 0 → Q (.ref u) H'
theorem box_b (t : Int) {k : Nat} (hk : k ≤ 2) : 0 ≤ t % 2305843009213693951 + 39373 * (k : Int) + 13757 ∧ t % 2305843009213693951 + 39373 * (k : Int) + 13757 < 2 ^ 62 := by
  have h1 := Int.emod_nonneg t (b := 2305843009213693951) (by decide)
  have h2 := Int.emod_lt_of_pos t (b := 2305843009213693951) (by decide)
  omega
theorem ok_box (T : Tx K mg) : FnOk P w K mg base CX0 1 T.fLBox T.fdLBox ["_law_script", "_law_k"] (spBox K) := by
  refine ok0 T.FLBox scLBox (fun vs H Q E h => ?_) (fun cdv A outer s H vs Q E hr h => ?_)
  · obtain ⟨l, ns, k, rfl, _⟩ := h
    rfl
  · obtain ⟨l, ns, j, rfl, hl, hj, k⟩ := h
    refine ⟨_, pss_cons (ps_set (i := 2) scLBox.nd rfl (Or.inl rfl) (pe_ifExp (pt_cmpR op_lt (pv 1) (pe_callB call_len_seq (by rfl) T.b_len PySem.boot_len (pa_cons (pv 0) pa_nil)) (nomark _)) (pe_ix ix_list (pv 0) (pv 1) (fun _ _ => rfl)) pe_int))
      (pss_one (ps_ret (pe_lst (pa_cons (pe_op op_mul (pe_callB call_abs (by rfl) T.b_abs PyProof.Rows.boot_abs (pa_cons (pv 2) pa_nil)) (pe_callTy call_int1 (by rfl) T.b_int PyProof.Rows.boot_int (pa_cons (pe_cmpR op_ge (pe_callB call_abs (by rfl) T.b_abs PyProof.Rows.boot_abs (pa_cons (pv 2) pa_nil)) (pe_op op_pow pe_int pe_int) (nomark _)) pa_nil)))
        (pa_cons (pe_op op_add (pe_op op_add (pe_op op_mod (pe_callTy call_int1 (by rfl) T.b_int PyProof.Rows.boot_int (pa_cons (pv 2) pa_nil)) pe_int) (pe_op op_mul pe_int (pv 1))) pe_int) (pa_cons pe_int pa_nil)))))), ?_⟩
    have fin : ∀ t : Int, ∀ p, H p = none → Q (.ref p) (upd H p (.lst [.int ((if t < 0 then -t else t) * (if decide ((10 : Int) ^ (18 : Int).toNat ≤ (if t < 0 then -t else t)) = true then 1 else 0)), .int (t % 2305843009213693951 + 39373 * ((j : Nat) : Int) + 13757), .int 0])) := fun t p hp => by
      obtain ⟨b1, b2⟩ := box_b t hj
      refine k p _ (Same.new hp) hp ⟨_, _, _, upd_same, ?_, b1, b2, Int.le_refl _, Int.le_refl _⟩
      refine Int.mul_nonneg ?_ ?_
      · split <;> omega
      · exact (ite01 _).1
    refine ⟨_, rfl, _, rfl, l, _, rfl, .inl hl, _, _, rfl, rfl, _, rfl, ?_⟩
    refine ite2 (fun h => ?_) (fun h => ?_)
    · have hlt : j < ns.length := by
        have h2 := of_decide_eq_true h
        rw [List.length_map] at h2
        omega
      refine ⟨_, rfl, _, rfl, l, _, _, .int ns[j], rfl, rfl, hl, atI_nat (by rw [List.getElem?_map, List.getElem?_eq_getElem hlt]; rfl), ?_⟩
      refine ⟨_, rfl, _, rfl, _, rfl, _, rfl, _, _, rfl, rfl, ⟨by decide, by decide, by decide⟩, _, _, rfl, rfl, .inr ⟨_, rfl, _, _, rfl, rfl, .inr ?_, ?_⟩⟩
      · exact (ite01 _).2
      · exact ⟨_, rfl, .inl ⟨_, rfl, _, _, rfl, rfl, (by decide : (0 : Int) < 2305843009213693951), _, rfl, _, _, rfl, rfl, .inl ⟨by decide, by decide⟩, _, _, rfl, rfl, _, _, rfl, rfl, (by show 3 ≤ sizeLine; decide), fun p hp => fin _ p hp⟩⟩
    · refine ⟨_, rfl, _, rfl, _, rfl, _, rfl, _, _, rfl, rfl, ⟨by decide, by decide, by decide⟩, _, _, rfl, rfl, .inr ⟨_, rfl, _, _, rfl, rfl, .inr ?_, ?_⟩⟩
      · exact (ite01 _).2
      · exact ⟨_, rfl, .inl ⟨_, rfl, _, _, rfl, rfl, (by decide : (0 : Int) < 2305843009213693951), _, rfl, _, _, rfl, rfl, .inl ⟨by decide, by decide⟩, _, _, rfl, rfl, _, _, rfl, rfl, (by show 3 ≤ sizeLine; decide), fun p hp => fin 0 p hp⟩⟩
def spTake (K : PySem.W.Frag) : Sp := fun vs H Q _ => ∃ (l : Addr) (m n : Nat), vs = [.ref l, .int (m : Nat)] ∧ UrnAt H l n ∧ n ≤ 1000 ∧ 0 < m ∧ m ≤ 1000000 * 1000 ∧ ∀ (r : Nat) H', But l H H' → UrnAt H' l (n + 1) → r < m → Q (.int (r : Nat)) H'
theorem ok_take (T : Tx K mg) : FnOk P w K mg base CX0 1 T.fLTake T.fdLTake ["_law_urn", "_law_low_so"] (spTake K) := by
  refine ok0 T.FLTake scLTake (fun vs H Q E h => ?_) (fun cdv A outer s H vs Q E hr h => ?_)
  · obtain ⟨l, m, n, rfl, _⟩ := h
    rfl
  · obtain ⟨l, m, n, rfl, ⟨a, b, c, hl, ha, hb, hb2, hc, hc2⟩, hn, hm, hm2, k⟩ := h
    have lowi : ∀ t : Int, ∃ r : Nat, t % (m : Int) = (r : Int) ∧ r < m := fun t => by
      have h1 := Int.emod_nonneg t (b := (m : Int)) (by omega)
      have h2 := Int.emod_lt_of_pos t (b := (m : Int)) (by omega)
      exact ⟨(t % (m : Int)).toNat, by omega, by omega⟩
    refine ⟨_, pss_cons (ps_if (pt_cmpR op_gt (pe_ix ix_list (pv 0) pe_int (fun _ _ => rfl)) pe_int (nomark _))
        (pss_cons (ps_set (i := 2) scLTake.nd rfl (Or.inl rfl) (pe_op op_mod (pe_callTy call_int1 (by rfl) T.b_int PyProof.Rows.boot_int (pa_cons (pe_ix ix_list (pv 0) pe_int (fun _ _ => rfl)) pa_nil)) (pv 1)))
        (pss_cons (ps_asg (pe_op op_fdiv (pe_ix ix_list (pv 0) pe_int (fun _ _ => rfl)) (pv 1)) (pg_sub (pv 0) pe_int set_list)) (pss_one (ps_ret (pv 2))))) pss_nil)
      (pss_cons (ps_asg (pe_op op_add (pe_ix ix_list (pv 0) pe_int (fun _ _ => rfl)) pe_int) (pg_sub (pv 0) pe_int set_list))
      (pss_cons (ps_set (i := 3) scLTake.nd rfl (Or.inl rfl) (pe_op op_mod (pe_callTy call_int1 (by rfl) T.b_int PyProof.Rows.boot_int (pa_cons (pe_op op_mul (pe_op op_add (pe_ix ix_list (pv 0) pe_int (fun _ _ => rfl)) (pe_op op_mul pe_int (pe_ix ix_list (pv 0) pe_int (fun _ _ => rfl)))) (pe_op op_add pe_int (pe_ix ix_list (pv 0) pe_int (fun _ _ => rfl)))) pa_nil)) pe_int))
      (pss_cons (ps_set (i := 4) scLTake.nd rfl (Or.inl rfl) (pe_op op_add (pe_op op_mod (pe_callTy call_int1 (by rfl) T.b_int PyProof.Rows.boot_int (pa_cons (pv 3) pa_nil)) pe_int) pe_int))
      (pss_cons (ps_set (i := 5) scLTake.nd rfl (Or.inl rfl) (pe_op op_mod (pe_callTy call_int1 (by rfl) T.b_int PyProof.Rows.boot_int (pa_cons (pe_op op_mul (pe_op op_add (pe_op op_add (pv 3) (pe_ix ix_list (pv 0) pe_int (fun _ _ => rfl))) (pe_op op_fdiv (pe_ix ix_list (pv 0) pe_int (fun _ _ => rfl)) pe_int)) (pv 4)) pa_nil)) pe_int))
      (pss_one (ps_ret (pe_op op_mod (pe_callTy call_int1 (by rfl) T.b_int PyProof.Rows.boot_int (pa_cons (pe_op op_fdiv (pe_op op_mod (pe_callTy call_int1 (by rfl) T.b_int PyProof.Rows.boot_int (pa_cons (pe_op op_add (pe_op op_mul (pv 5) pe_int) (pv 3)) pa_nil)) pe_int) pe_int) pa_nil)) (pv 1)))))))), ?_⟩
    refine ⟨_, rfl, l, _, _, _, rfl, rfl, SqL.of hl, at30, _, _, rfl, rfl, _, rfl, ?_⟩
    refine ite2 (fun h => ?_) (fun h => ?_)
    · refine ⟨_, rfl, l, _, _, _, rfl, rfl, SqL.of hl, at30, .inl ⟨_, rfl, _, rfl, _, _, rfl, rfl, (by show (0 : Int) < (m : Int); omega), ?_⟩⟩
      refine ⟨_, rfl, l, _, _, _, rfl, rfl, SqL.of hl, at30, _, rfl, _, _, rfl, rfl, ⟨by omega, by omega⟩, _, rfl, l, _, _, 0, rfl, rfl, hl, rfl, ?_⟩
      obtain ⟨r, hr1, hr2⟩ := lowi a
      refine ⟨_, rfl, ?_⟩
      show Q (.int (a % (m : Int))) _
      rw [hr1]
      exact k r _ But.put ⟨_, _, _, upd_same, Int.ediv_nonneg ha (by omega), hb, hb2, hc, by omega⟩ hr2
    · refine ⟨_, rfl, l, _, _, _, rfl, rfl, SqL.of hl, at32, _, _, rfl, rfl, _, rfl, l, _, _, 2, rfl, rfl, hl, rfl, ?_⟩
      have hu : (upd H l (.lst [.int a, .int b, .int (c + 1)])) l = some (.lst [.int a, .int b, .int (c + 1)]) := upd_same
      have hbut : But l H (upd H l (.lst [.int a, .int b, .int (c + 1)])) := But.put
      show tSeq _ _ _ _ (upd H l (.lst [.int a, .int b, .int (c + 1)]))
      generalize upd H l (.lst [.int a, .int b, .int (c + 1)]) = H1 at hu hbut ⊢
      refine ⟨_, rfl, l, _, _, _, rfl, rfl, SqL.of hu, at31, _, rfl, l, _, _, _, rfl, rfl, SqL.of hu, at32, _, _, rfl, rfl, .inl ⟨by decide, by decide⟩, _, _, rfl, rfl, _, rfl, l, _, _, _, rfl, rfl, SqL.of hu, at32, _, _, rfl, rfl, _, _, rfl, rfl, .inr ⟨by omega, by omega⟩, .inl ⟨_, rfl, _, _, rfl, rfl, (by decide : (0 : Int) < 2147483647), ?_⟩⟩
      refine ⟨_, rfl, .inl ⟨_, rfl, _, _, rfl, rfl, (by decide : (0 : Int) < 40009), _, _, rfl, rfl, ?_⟩⟩
      refine ⟨_, rfl, _, rfl, l, _, _, _, rfl, rfl, SqL.of hu, at32, _, _, rfl, rfl, _, rfl, l, _, _, _, rfl, rfl, SqL.of hu, at31, _, _, rfl, rfl, ⟨by decide, by decide⟩, _, _, rfl, rfl, _, rfl, _, _, rfl, rfl, .inr ⟨by omega, by omega⟩, .inl ⟨_, rfl, _, _, rfl, rfl, (by decide : (0 : Int) < 2147483629), ?_⟩⟩
      refine ⟨_, rfl, _, _, rfl, rfl, .inr ⟨by decide, by decide⟩, _, rfl, _, _, rfl, rfl, .inl ⟨_, rfl, _, _, rfl, rfl, (by decide : (0 : Int) < 2147483587), _, _, rfl, rfl, ⟨by decide, by decide⟩, .inl ⟨_, rfl, _, rfl, _, _, rfl, rfl, (by show (0 : Int) < (m : Int); omega), ?_⟩⟩⟩
      have key : ∀ t : Int, Q (.int (t % (m : Int))) H1 := fun t => by
        obtain ⟨r, hr1, hr2⟩ := lowi t
        rw [hr1]
        exact k r _ hbut ⟨_, _, _, hu, ha, hb, hb2, by omega, by omega⟩ hr2
      exact key _
theorem free_same {H H' : Hp} {l : Addr} (e : Same H H') (h : H' l = none) : H l = none := by
  cases q : H l with
  | none => rfl
  | some o =>
    rw [e l o q] at h
    cases h
theorem cut_ints (ns : List Int) (hn : ns.length ≤ 63) : ∃ zs : List Int, cutV (ns.map V.int) (some 2) (some 63) = zs.map V.int ∧ (0 < zs.length → 2 < ns.length) ∧ zs.length ≤ 63 := by
  refine ⟨(ns.drop (min 2 ns.length)).take (min 63 ns.length - min 2 ns.length), ?_, fun h => ?_, ?_⟩
  · unfold cutV
    rw [List.length_map, show (some 2 : Option Int) = some ((2 : Nat) : Int) from rfl, show (some 63 : Option Int) = some ((63 : Nat) : Int) from rfl, HT.sIx_nat, HT.sIx_nat, List.map_take, List.map_drop]
  · rw [List.length_take, List.length_drop] at h
    omega
  · rw [List.length_take, List.length_drop]
    omega
def spCells (K : PySem.W.Frag) : Sp := fun vs H Q _ => ∃ (a : Addr) (ns : List Int), vs = [.ref a, .int 2] ∧ SqL K H a (ns.map V.int) ∧ ns.length ≤ 63 ∧ ∀ l H' (ms : List Int), Same H H' → H l = none → H' l = some (.lst (ms.map V.int)) → ms.length ≤ 2 → Q (.ref l) H'
theorem ok_cells (T : Tx K mg) : FnOk P w K mg base CX0 1 T.fLCells T.fdLCells ["_law_script", "_law_roof_so"] (spCells K) := by
  refine ok0 T.FLCells scLCells (fun vs H Q E h => ?_) (fun cdv A outer s H vs Q E hr h => ?_)
  · obtain ⟨a, ns, rfl, _⟩ := h
    rfl
  · obtain ⟨a, ns, rfl, ha, hn, k⟩ := h
    refine ⟨_, pss_cons (ps_set (i := 2) scLCells.nd rfl (Or.inl rfl) (pe_orT (pe_callTy call_list_of (by rfl) T.b_list PyProof.Rows.boot_list (pa_cons (pe_slice sl_list (pv 0) po_none (po_some (pv 1))) pa_nil)) (pe_one (pe_lst (pa_cons pe_int pa_nil)))))
      (pss_cons (ps_for PassesOwn.never rfl (pi_enum (by rfl) T.b_enumerate (pa_cons (pe_slice sl_list (pv 0) (po_some (pv 1)) (po_some pe_int)) pa_nil)) (pg_tup rfl (pgs_cons (pg_name (i := 3) scLCells.nd rfl (Or.inl rfl)) (pgs_cons (pg_name (i := 4) scLCells.nd rfl (Or.inl rfl)) pgs_nil)))
        (pss_cons (ps_set (i := 5) scLCells.nd rfl (Or.inl rfl) (pe_op op_mod (pe_callTy call_int1 (by rfl) T.b_int PyProof.Rows.boot_int (pa_cons (pv 3) pa_nil)) (pv 1)))
        (pss_one (ps_asg (pe_op op_add (pe_ix ix_list (pv 2) (pv 5) (fun _ _ => rfl)) (pe_op op_mul (pv 4) (pe_op op_add (pv 3) pe_int))) (pg_sub (pv 2) (pv 5) set_list)))))
      (pss_one (ps_ret (pv 2)))), ?_⟩
    refine ⟨_, rfl, _, rfl, _, rfl, a, _, rfl, ha, fun p hp => ⟨p, _, rfl, .inl (SqL.of upd_same), fun l2 hl => ?_⟩⟩
    have ep : Same H (upd H p (.lst (cutV (ns.map V.int) none (some 2)))) := Same.new hp
    have el : Same (upd H p (.lst (cutV (ns.map V.int) none (some 2)))) (upd (upd H p (.lst (cutV (ns.map V.int) none (some 2)))) l2 (.lst (cutV (ns.map V.int) none (some 2)))) := Same.new hl
    have hlH := free_same ep hl
    have e0 := ep.trans el
    have hl1 : (upd (upd H p (.lst (cutV (ns.map V.int) none (some 2)))) l2 (.lst (cutV (ns.map V.int) none (some 2)))) l2 = some (.lst (cutV (ns.map V.int) none (some 2))) := upd_same
    generalize upd (upd H p (.lst (cutV (ns.map V.int) none (some 2)))) l2 (.lst (cutV (ns.map V.int) none (some 2))) = H1 at e0 hl1 ⊢
    have ec : cutV (ns.map V.int) none (some 2) = (ns.take 2).map V.int := by
      rw [List.map_take]
      exact cutV_take _ 2
    rw [ec] at hl1
    obtain ⟨zs, hzs, hz1, hz2⟩ := cut_ints ns hn
    refine ⟨_, .inl ⟨_, SqL.of hl1, rfl⟩, ite2 (fun h => ?_) (fun h => ?_)⟩
    have hms : (ns.take 2).length ≤ 2 ∧ (2 < ns.length → (ns.take 2).length = 2) := ⟨by rw [List.length_take]; omega, fun g => by rw [List.length_take]; omega⟩
    generalize ns.take 2 = ms at hms hl1
    rotate_left
    refine ⟨by show 1 ≤ sizeLine; decide, fun l2 hl2 => ?_⟩
    have hn2 : ns.take 2 = [] := by
      cases q : ns.take 2 with
      | nil => rfl
      | cons x y =>
        rw [q] at h
        exact absurd rfl h
    have hms : ([0] : List Int).length ≤ 2 ∧ (2 < ns.length → ([0] : List Int).length = 2) := ⟨by decide, fun g => by
      cases ns with
      | nil => cases g
      | cons x y => cases hn2⟩
    have hlH := free_same e0 hl2
    have e0 := e0.trans (Same.new (o := .lst [.int 0]) hl2)
    have hl1 : (upd H1 l2 (.lst [.int 0])) l2 = some (.lst (([0] : List Int).map V.int)) := upd_same
    show gName 2 (V.ref l2) _ (upd H1 l2 (.lst [V.int 0])) _
    generalize upd H1 l2 (.lst [V.int 0]) = H1 at e0 hl1 ⊢
    generalize ([0] : List Int) = ms at hms hl1
    all_goals
      refine ⟨_, rfl, _, rfl, _, rfl, _, rfl, a, _, rfl, e0.seq ha, fun q hq => ⟨q, _, rfl, SqL.of upd_same, ?_⟩⟩
      have eq : Same H1 (upd H1 q (.lst (cutV (ns.map V.int) (some 2) (some 63)))) := Same.new hq
      have hql : q ≠ l2 := fun z => by rw [z, hl1] at hq; cases hq
      have e1 := e0.trans eq
      have hl3 := eq _ _ hl1
      have hq3 : (upd H1 q (.lst (cutV (ns.map V.int) (some 2) (some 63)))) q = some (.lst (zs.map V.int)) := by rw [← hzs]; exact upd_same
      generalize upd H1 q (.lst (cutV (ns.map V.int) (some 2) (some 63))) = H3 at e1 hl3 hq3 ⊢
      refine for_it (walk_enum (xs := zs.map V.int)) (fun i σ H' => ∃ v3 v4 v5 ms2, σ = [some (.ref a), some (.int 2), some (.ref l2), v3, v4, v5] ∧ Same H H' ∧ H' q = some (.lst (zs.map V.int)) ∧ H' l2 = some (.lst (ms2.map V.int)) ∧ ms2.length = ms.length) ⟨none, none, none, ms, rfl, e1, hq3, hl3, rfl⟩ (fun i σ H' _ ⟨_, _, _, _, _, _, h, _⟩ => SqL.of h) ?_ ?_
      · rintro i x σ H4 H5 hi ⟨v3, v4, v5, ms2, rfl, e4, hq4, hl4, hln⟩ ⟨t, x1, x2, rfl, ht, rfl, hx1, hx2⟩
        cases hx1
        rw [List.length_map] at hi
        have hx2 : (zs.map V.int)[i]? = some x2 := hx2
        rw [List.getElem?_map, List.getElem?_eq_getElem hi] at hx2
        cases hx2
        have et : Same H4 (upd H4 t (.tup [.int (i : Nat), .int zs[i]])) := Same.new ht
        have hl5 := et _ _ hl4
        have hq5 := et _ _ hq4
        have e5 := e4.trans et
        have em : (((i : Nat) : Int)) % 2 = ((i % 2 : Nat) : Int) := by omega
        have hjl : i % 2 < ms2.length := by
          have := hms.2 (hz1 (by omega))
          omega
        refine ⟨t, _, rfl, SqT.of upd_same, rfl, _, _, rfl, _, _, rfl, rfl, ?_⟩
        refine ⟨_, rfl, .inl ⟨_, rfl, _, rfl, _, _, rfl, rfl, (by decide : (0 : Int) < 2), ?_⟩⟩
        refine ⟨_, rfl, _, rfl, l2, _, _, .int ms2[i % 2], rfl, rfl, SqL.of hl5, ?_, _, rfl, _, rfl, _, _, rfl, rfl, _, _, rfl, rfl, .inr ⟨by omega, by omega⟩, _, _, rfl, rfl, ?_⟩
        · show atI _ (((i : Nat) : Int) % 2) = _
          rw [em]
          exact atI_nat (by rw [List.getElem?_map, List.getElem?_eq_getElem hjl]; rfl)
        refine ⟨_, rfl, _, rfl, l2, _, _, i % 2, rfl, rfl, hl5, ?_, ?_⟩
        · show ixN _ (((i : Nat) : Int) % 2) = _
          rw [em]
          unfold ixN
          rw [if_pos (by omega), if_pos (by rw [List.length_map]; omega)]
          exact congrArg some (Int.toNat_natCast _)
        · refine ⟨_, _, _, ms2.set (i % 2) (ms2[i % 2] + zs[i] * (((i : Nat) : Int) + 2)), rfl, Same.mut e5 hlH, ?_, ?_, by rw [List.length_set]; exact hln⟩
          · rw [upd_ne hql]
            exact hq5
          · rw [List.map_set]
            exact upd_same
      · rintro σ H' ⟨v3, v4, v5, ms2, rfl, e4, hq4, hl4, hln⟩
        exact ⟨_, rfl, k l2 H' ms2 e4 hlH hl4 (by omega)⟩
end
end K26
end
section
set_option Elab.async false
set_option linter.all false
set_option maxRecDepth 100000
set_option maxHeartbeats 400000
/-! _law_same -/
namespace K26
open PySem PySem.Spec PyProof.Rows L2
mutual
/-- lists, tuples, ints, bools -/
def okS : PyData → Bool
  | .list ds => decide (ds.length ≤ 16000000) && okSs ds
  | .tuple ds => decide (ds.length ≤ 16000000) && okSs ds
  | .dict _ => false
  | .none => false
  | .bool _ => true
  | .int _ => true
  | .str _ => false
def okSs : List PyData → Bool
  | [] => true
  | d :: ds => okS d && okSs ds
end
theorem okSs_get {ds : List PyData} : ∀ {i : Nat} {d : PyData}, okSs ds = true → ds[i]? = some d → okS d = true := by
  induction ds with
  | nil => intro i d _ h; simp at h
  | cons x ds ih =>
    intro i d h e
    unfold okSs at h
    obtain ⟨h1, h2⟩ := Bool.and_eq_true_iff.mp h
    cases i with
    | zero =>
      simp at e
      subst e
      exact h1
    | succ i => exact ih h2 (by simpa using e)
theorem okS_tup {ds : List PyData} (h : okS (.tuple ds) = true) : ds.length ≤ 16000000 ∧ okSs ds = true := by
  unfold okS at h
  obtain ⟨h1, h2⟩ := Bool.and_eq_true_iff.mp h
  exact ⟨of_decide_eq_true h1, h2⟩
theorem okS_lst {ds : List PyData} (h : okS (.list ds) = true) : ds.length ≤ 16000000 ∧ okSs ds = true := by
  unfold okS at h
  obtain ⟨h1, h2⟩ := Bool.and_eq_true_iff.mp h
  exact ⟨of_decide_eq_true h1, h2⟩
theorem okSs_of {ds : List PyData} (h : ∀ d ∈ ds, okS d = true) : okSs ds = true := by
  induction ds with
  | nil => simp [okSs]
  | cons x ds ih =>
    rw [okSs, h x List.mem_cons_self, ih fun d hd => h d (List.mem_cons_of_mem _ hd)]
    rfl
theorem okS_tup_of {ds : List PyData} (hl : ds.length ≤ 16000000) (h : ∀ d ∈ ds, okS d = true) : okS (.tuple ds) = true := by
  rw [okS, decide_eq_true hl, okSs_of h]
  rfl
theorem okS_lst_of {ds : List PyData} (hl : ds.length ≤ 16000000) (h : ∀ d ∈ ds, okS d = true) : okS (.list ds) = true := by
  rw [okS, decide_eq_true hl, okSs_of h]
  rfl
theorem okS_f (m : Int) : okS (fD m) = true := by simp [fD, okS, okSs]
theorem okS_p (x : Lt) : okS (pD x) = true := by simp [pD, okS, okSs, okS_f]
theorem okS_r {r : Rw} (h : r.length ≤ 1000) : okS (rD r) = true := okS_tup_of (by rw [List.length_map]; omega) fun d hd => by
  obtain ⟨x, _, rfl⟩ := List.mem_map.mp hd
  exact okS_p x
theorem eqv_bb (b : Bool) : PyData.eqv (.bool b) (.bool b) = true := by cases b <;> rfl
theorem eqv_ii (i : Int) : PyData.eqv (.int i) (.int i) = true := by simp [PyData.eqv]
theorem all_true : ∀ n : Nat, (List.replicate n true).all id = true
  | 0 => rfl
  | n + 1 => by rw [List.replicate_succ, List.all_cons, all_true n]; rfl
theorem filterMap_rep : ∀ n : Nat, (List.replicate n (some (PyData.bool true))).filterMap id = (List.replicate n true).map .bool
  | 0 => rfl
  | n + 1 => by rw [List.replicate_succ, List.filterMap_cons_some (by rfl), filterMap_rep n, List.replicate_succ, List.map_cons]
section
variable {K : PySem.W.Frag}
theorem io_lt : PySem.W.kitOne K (.type "list") (.type "tuple") = some false := kit_ty (by decide +kernel)
theorem io_tl : PySem.W.kitOne K (.type "tuple") (.type "list") = some false := kit_ty (by decide +kernel)
theorem io_ll : PySem.W.kitOne K (.type "list") (.type "list") = some true := kit_ty (by decide +kernel)
theorem io_tt : PySem.W.kitOne K (.type "tuple") (.type "tuple") = some true := kit_ty (by decide +kernel)
theorem io_bb : PySem.W.kitOne K (.type "bool") (.type "bool") = some true := kit_ty (by decide +kernel)
theorem io_ii : PySem.W.kitOne K (.type "int") (.type "int") = some true := kit_ty (by decide +kernel)
theorem io_ib : PySem.W.kitOne K (.type "int") (.type "bool") = some false := kit_ty (by decide +kernel)
end
section
variable {P : Program} {w : World} {K : PySem.W.Frag} {mg : Str → Option Value} {base : Heap}
def spSame (K : PySem.W.Frag) (n : Nat) : Sp := fun vs H Q _ => ∃ (v u : V) (d : PyData), vs = [v, u] ∧ Dp K H v d ∧ Dp K H u d ∧ d.depth ≤ n ∧ okS d = true ∧ ∀ H', Same H H' → Q (.bl true) H'
/-- the terms of the text, once -/
theorem ok_same (T : Tx K mg) : ∀ n, FnOk P w K mg base CX0 (n + 1) T.fLSame T.fdLSame ["_law_near", "_law_due"] (spSame K n)
  | 0 => by
    refine ok0 T.FLSame scLSame (fun vs H Q E h => ?_) (fun cdv A outer s H vs Q E hr h => ?_)
    · obtain ⟨v, u, d, rfl, _⟩ := h
      rfl
    · obtain ⟨v, u, d, rfl, hv, hu, hn, hok, k⟩ := h
      refine ⟨_, pss_cons (ps_if (pt_val (pe_callB call_isiT (by rfl) T.b_isinstance boot_isinstance (pa_cons (pv 1) (pa_cons (pe_tup (pa_cons (pe_bltn (v := .ty "list") (by rfl) T.b_list PyProof.Rows.boot_list rfl) (pa_cons (pe_bltn (v := .ty "tuple") (by rfl) T.b_tuple PyProof.Rows.boot_tuple rfl) pa_nil))) pa_nil))))
        pss_never pss_nil)
        (pss_cons (ps_if (PW.pt (pw_or (pt_cmpR op_isN (pv 1) pe_non (nomark _)) (pw_or1 (pt_val (pe_callB call_isiT (by rfl) T.b_isinstance boot_isinstance (pa_cons (pv 1) (pa_cons (pe_tup (pa_cons (pe_bltn (v := .ty "bool") (by rfl) T.b_bool PyProof.Rows.boot_bool rfl) (pa_cons (pe_bltn (v := .ty "str") (by rfl) T.b_str PyProof.Rows.boot_str rfl) pa_nil))) pa_nil)))))))
          (pss_cons (ps_if (pt_not (pt_cmpR (op_eqD (Room.u64 hr)) (pv 0) (pv 1) (nomark _))) (pss_one ps_never) pss_nil)
          (pss_cons (ps_if (pt_not (pt_cmpR op_eq (pe_callB call_isi (by rfl) T.b_isinstance boot_isinstance (pa_cons (pv 0) (pa_cons (pe_bltn (v := .ty "bool") (by rfl) T.b_bool PyProof.Rows.boot_bool rfl) pa_nil))) (pe_callB call_isi (by rfl) T.b_isinstance boot_isinstance (pa_cons (pv 1) (pa_cons (pe_bltn (v := .ty "bool") (by rfl) T.b_bool PyProof.Rows.boot_bool rfl) pa_nil))) (nomark _))) (pss_one ps_never) pss_nil)
          (pss_one (ps_ret (pe_cmpR op_eq (pe_cmpR op_isN (pv 0) pe_non (nomark _)) (pe_cmpR op_isN (pv 1) pe_non (nomark _)) (nomark _)))))) pss_nil)
        (pss_one (ps_ret (pe_and (pe_callB call_isi (by rfl) T.b_isinstance boot_isinstance (pa_cons (pv 0) (pa_cons (pe_bltn (v := .ty "int") (by rfl) T.b_int PyProof.Rows.boot_int rfl) pa_nil))) (pe_and (pe_not (pe_callB call_isi (by rfl) T.b_isinstance boot_isinstance (pa_cons (pv 0) (pa_cons (pe_bltn (v := .ty "bool") (by rfl) T.b_bool PyProof.Rows.boot_bool rfl) pa_nil)))) (pe_one (pe_cmpR (op_eqD (Room.u64 hr)) (pv 0) (pv 1) (nomark _)))))))), ?_⟩
      refine ⟨_, rfl, (by show 2 ≤ sizeLine; decide), fun tp htp => ?_⟩
      have e0 : Same H (upd H tp (.tup [.ty "list", .ty "tuple"])) := Same.new htp
      have hv0 := Dp.same e0 d v hv
      have hu0 := Dp.same e0 d u hu
      have ty := tyx_of hu0
      have ht0 : (upd H tp (.tup [.ty "list", .ty "tuple"])) tp = some (.tup [.ty "list", .ty "tuple"]) := upd_same
      generalize upd H tp (.tup [.ty "list", .ty "tuple"]) = H0 at e0 hv0 hu0 ty ht0 ⊢
      cases d with
      | list ds => simp [PyData.depth] at hn
      | tuple ds => simp [PyData.depth] at hn
      | dict _ => cases hv
      | none => cases hok
      | str _ => cases hok
      | bool b =>
        refine ⟨_, tp, _, _, _, false, rfl, ht0, pair_ty2 _ _, ty, ia_bool, false, rfl, ?_⟩
        have hvb := hv0.bl_inv
        have hub := hu0.bl_inv
        subst hvb hub
        refine ⟨_, rfl, rfl, _, rfl, ?_⟩
        refine ⟨_, rfl, (by show 2 ≤ sizeLine; decide), fun tq htq => ?_⟩
        have e1 : Same H0 (upd H0 tq (.tup [.ty "bool", .ty "str"])) := Same.new htq
        have ty1 := tyx_of (Dp.same e1 _ _ hu0)
        have hv1 := Dp.same e1 _ _ hv0
        refine ⟨_, tq, _, _, _, true, rfl, upd_same, pair_ty2 _ _, ty1, ib_bool, true, rfl, ?_⟩
        refine ⟨_, rfl, _, rfl, _, _, hv1, hv1, rfl, rfl, _, rfl, ?_⟩
        rw [eqv_bb]
        refine ⟨_, rfl, _, _, _, _, true, rfl, .ty _, ty1, io_bb, _, rfl, _, _, _, _, true, rfl, .ty _, ty1, io_bb, rfl, _, rfl, ?_⟩
        refine ⟨_, rfl, rfl, _, rfl, rfl, rfl, ?_⟩
        exact k _ (e0.trans e1)
      | int i =>
        refine ⟨_, tp, _, _, _, false, rfl, ht0, pair_ty2 _ _, ty, ia_int, false, rfl, ?_⟩
        have hvb := hv0.int_inv
        have hub := hu0.int_inv
        subst hvb hub
        refine ⟨_, rfl, rfl, _, rfl, ?_⟩
        refine ⟨_, rfl, (by show 2 ≤ sizeLine; decide), fun tq htq => ?_⟩
        have e1 : Same H0 (upd H0 tq (.tup [.ty "bool", .ty "str"])) := Same.new htq
        have ty1 := tyx_of (Dp.same e1 _ _ hu0)
        have hv1 := Dp.same e1 _ _ hv0
        refine ⟨_, tq, _, _, _, false, rfl, upd_same, pair_ty2 _ _, ty1, ib_int, false, rfl, ?_⟩
        refine ⟨_, rfl, _, _, _, _, true, rfl, .ty _, ty1, io_ii, true, rfl, ?_⟩
        refine ⟨_, rfl, _, _, _, _, false, rfl, .ty _, ty1, io_ib, false, rfl, _, rfl, ?_⟩
        refine ⟨_, rfl, _, rfl, _, _, hv1, hv1, rfl, rfl, ?_⟩
        rw [eqv_ii]
        exact k _ (e0.trans e1)
  | n + 1 => by
    have G : FnOk P w K mg base CX0 (n + 1) T.fLSame T.fdLSame ["_law_near", "_law_due"] (spSame K n) := ok_same T n
    refine ok0 T.FLSame scLSame (fun vs H Q E h => ?_) (fun cdv A outer s H vs Q E hr h => ?_)
    · obtain ⟨v, u, d, rfl, _⟩ := h
      rfl
    · obtain ⟨v, u, d, rfl, hv, hu, hn, hok, k⟩ := h
      refine ⟨_, pss_cons (ps_if (pt_val (pe_callB call_isiT (by rfl) T.b_isinstance boot_isinstance (pa_cons (pv 1) (pa_cons (pe_tup (pa_cons (pe_bltn (v := .ty "list") (by rfl) T.b_list PyProof.Rows.boot_list rfl) (pa_cons (pe_bltn (v := .ty "tuple") (by rfl) T.b_tuple PyProof.Rows.boot_tuple rfl) pa_nil))) pa_nil))))
          (pss_cons (ps_if (pt_cmpR op_ne (pe_callB call_isi (by rfl) T.b_isinstance boot_isinstance (pa_cons (pv 0) (pa_cons (pe_bltn (v := .ty "list") (by rfl) T.b_list PyProof.Rows.boot_list rfl) pa_nil))) (pe_callB call_isi (by rfl) T.b_isinstance boot_isinstance (pa_cons (pv 1) (pa_cons (pe_bltn (v := .ty "list") (by rfl) T.b_list PyProof.Rows.boot_list rfl) pa_nil))) (nomark _)) (pss_one ps_never) pss_nil)
          (pss_cons (ps_if (pt_cmpR op_ne (pe_callB call_isi (by rfl) T.b_isinstance boot_isinstance (pa_cons (pv 0) (pa_cons (pe_bltn (v := .ty "tuple") (by rfl) T.b_tuple PyProof.Rows.boot_tuple rfl) pa_nil))) (pe_callB call_isi (by rfl) T.b_isinstance boot_isinstance (pa_cons (pv 1) (pa_cons (pe_bltn (v := .ty "tuple") (by rfl) T.b_tuple PyProof.Rows.boot_tuple rfl) pa_nil))) (nomark _)) (pss_one ps_never) pss_nil)
          (pss_cons (ps_if (pt_not (pt_cmpR op_eq (pe_callB call_len_seq (by rfl) T.b_len PySem.boot_len (pa_cons (pv 0) pa_nil)) (pe_callB call_len_seq (by rfl) T.b_len PySem.boot_len (pa_cons (pv 1) pa_nil)) (nomark _))) (pss_one ps_never) pss_nil)
          (pss_one (ps_ret (pe_callB (cr_all rfl) (by rfl) T.b_all PyProof.Rows.boot_all (pa_cons (pe_lc (own := [("_law_far", 2), ("_law_own", 3)]) (g := gTup K 2 (gCons (gName 2) (gCons (gName 3) gNil))) (tt := tYes) (by rfl) scLSame.nd (RZ.pi_zipA (by rfl) T.b_zip (pa_cons (pv 0) (pa_cons (pv 1) pa_nil))) (blkOk_by (N := nLSame) (sc := defScope sLSame) (by decide +kernel))
            (fun _ _ _ _ _ => pg_tup rfl (pgs_cons (pg_name (i := 2) scLSame.nd rfl (Or.inl rfl)) (pgs_cons (pg_name (i := 3) scLSame.nd rfl (Or.inl rfl)) pgs_nil))) (fun _ _ _ _ _ => pts_nil)
            (fun _ _ _ _ _ => pe_call G hr rfl T.gLSame T.FLSame.kp T.bLSame .nil pass0 (pa_cons (pv 2) (pa_cons (pv 3) pa_nil)))) pa_nil))))))) pss_nil)
        (pss_cons (ps_if (PW.pt (pw_or (pt_cmpR op_isN (pv 1) pe_non (nomark _)) (pw_or1 (pt_val (pe_callB call_isiT (by rfl) T.b_isinstance boot_isinstance (pa_cons (pv 1) (pa_cons (pe_tup (pa_cons (pe_bltn (v := .ty "bool") (by rfl) T.b_bool PyProof.Rows.boot_bool rfl) (pa_cons (pe_bltn (v := .ty "str") (by rfl) T.b_str PyProof.Rows.boot_str rfl) pa_nil))) pa_nil)))))))
          (pss_cons (ps_if (pt_not (pt_cmpR (op_eqD (Room.u64 hr)) (pv 0) (pv 1) (nomark _))) (pss_one ps_never) pss_nil)
          (pss_cons (ps_if (pt_not (pt_cmpR op_eq (pe_callB call_isi (by rfl) T.b_isinstance boot_isinstance (pa_cons (pv 0) (pa_cons (pe_bltn (v := .ty "bool") (by rfl) T.b_bool PyProof.Rows.boot_bool rfl) pa_nil))) (pe_callB call_isi (by rfl) T.b_isinstance boot_isinstance (pa_cons (pv 1) (pa_cons (pe_bltn (v := .ty "bool") (by rfl) T.b_bool PyProof.Rows.boot_bool rfl) pa_nil))) (nomark _))) (pss_one ps_never) pss_nil)
          (pss_one (ps_ret (pe_cmpR op_eq (pe_cmpR op_isN (pv 0) pe_non (nomark _)) (pe_cmpR op_isN (pv 1) pe_non (nomark _)) (nomark _)))))) pss_nil)
        (pss_one (ps_ret (pe_and (pe_callB call_isi (by rfl) T.b_isinstance boot_isinstance (pa_cons (pv 0) (pa_cons (pe_bltn (v := .ty "int") (by rfl) T.b_int PyProof.Rows.boot_int rfl) pa_nil))) (pe_and (pe_not (pe_callB call_isi (by rfl) T.b_isinstance boot_isinstance (pa_cons (pv 0) (pa_cons (pe_bltn (v := .ty "bool") (by rfl) T.b_bool PyProof.Rows.boot_bool rfl) pa_nil)))) (pe_one (pe_cmpR (op_eqD (Room.u64 hr)) (pv 0) (pv 1) (nomark _)))))))), ?_⟩
      refine ⟨_, rfl, (by show 2 ≤ sizeLine; decide), fun tp htp => ?_⟩
      have e0 : Same H (upd H tp (.tup [.ty "list", .ty "tuple"])) := Same.new htp
      have hv0 := Dp.same e0 d v hv
      have hu0 := Dp.same e0 d u hu
      have ty := tyx_of hu0
      have tyv := tyx_of hv0
      have ht0 : (upd H tp (.tup [.ty "list", .ty "tuple"])) tp = some (.tup [.ty "list", .ty "tuple"]) := upd_same
      generalize upd H tp (.tup [.ty "list", .ty "tuple"]) = H0 at e0 hv0 hu0 ty tyv ht0 ⊢
      cases d with
      | dict _ => cases hv
      | none => cases hok
      | str _ => cases hok
      | bool b =>
        refine ⟨_, tp, _, _, _, false, rfl, ht0, pair_ty2 _ _, ty, ia_bool, false, rfl, ?_⟩
        have hvb := hv0.bl_inv
        have hub := hu0.bl_inv
        subst hvb hub
        refine ⟨_, rfl, rfl, _, rfl, ?_⟩
        refine ⟨_, rfl, (by show 2 ≤ sizeLine; decide), fun tq htq => ?_⟩
        have e1 : Same H0 (upd H0 tq (.tup [.ty "bool", .ty "str"])) := Same.new htq
        have ty1 := tyx_of (Dp.same e1 _ _ hu0)
        have hv1 := Dp.same e1 _ _ hv0
        refine ⟨_, tq, _, _, _, true, rfl, upd_same, pair_ty2 _ _, ty1, ib_bool, true, rfl, ?_⟩
        refine ⟨_, rfl, _, rfl, _, _, hv1, hv1, rfl, rfl, _, rfl, ?_⟩
        rw [eqv_bb]
        refine ⟨_, rfl, _, _, _, _, true, rfl, .ty _, ty1, io_bb, _, rfl, _, _, _, _, true, rfl, .ty _, ty1, io_bb, rfl, _, rfl, ?_⟩
        refine ⟨_, rfl, rfl, _, rfl, rfl, rfl, ?_⟩
        exact k _ (e0.trans e1)
      | int i =>
        refine ⟨_, tp, _, _, _, false, rfl, ht0, pair_ty2 _ _, ty, ia_int, false, rfl, ?_⟩
        have hvb := hv0.int_inv
        have hub := hu0.int_inv
        subst hvb hub
        refine ⟨_, rfl, rfl, _, rfl, ?_⟩
        refine ⟨_, rfl, (by show 2 ≤ sizeLine; decide), fun tq htq => ?_⟩
        have e1 : Same H0 (upd H0 tq (.tup [.ty "bool", .ty "str"])) := Same.new htq
        have ty1 := tyx_of (Dp.same e1 _ _ hu0)
        have hv1 := Dp.same e1 _ _ hv0
        refine ⟨_, tq, _, _, _, false, rfl, upd_same, pair_ty2 _ _, ty1, ib_int, false, rfl, ?_⟩
        refine ⟨_, rfl, _, _, _, _, true, rfl, .ty _, ty1, io_ii, true, rfl, ?_⟩
        refine ⟨_, rfl, _, _, _, _, false, rfl, .ty _, ty1, io_ib, false, rfl, _, rfl, ?_⟩
        refine ⟨_, rfl, _, rfl, _, _, hv1, hv1, rfl, rfl, ?_⟩
        rw [eqv_ii]
        exact k _ (e0.trans e1)
      | list ds =>
        refine ⟨_, tp, _, _, _, true, rfl, ht0, pair_ty2 _ _, ty, ia_list, true, rfl, ?_⟩
        obtain ⟨a, xs, rfl, hxs, hxd⟩ := hv0.lst_inv
        obtain ⟨b, ys, rfl, hys, hyd⟩ := hu0.lst_inv
        have hxl := hxd.len
        have hyl := hyd.len
        refine ⟨_, rfl, _, _, _, _, true, rfl, .ty _, tyv, io_ll, _, rfl, _, _, _, _, true, rfl, .ty _, ty, io_ll, rfl, _, rfl, ?_⟩
        refine ⟨_, rfl, _, _, _, _, false, rfl, .ty _, tyv, io_lt, _, rfl, _, _, _, _, false, rfl, .ty _, ty, io_lt, rfl, _, rfl, ?_⟩
        refine ⟨_, rfl, a, xs, rfl, .inl hxs, _, rfl, b, ys, rfl, .inl hys, rfl, _, rfl, ?_⟩
        rw [hxl, hyl, decide_eq_true rfl]
        refine ⟨_, rfl, _, rfl, a, b, xs, ys, rfl, .inl ⟨hxs, hys, fun D hD => ?_⟩⟩
        refine lc_pure (K := K) (walk_zip (K := K) (a := a) (b := b) (xs := xs) (ys := ys) (n := ds.length) (by omega)) (List.replicate ds.length (some (.bool true))) (by rw [List.length_replicate]) (Nat.le_trans (okS_lst hok).1 (by rw [sizeLine_eq]; decide)) hD (fun H' e => ⟨e.seq hxs, e.seq hys⟩) YPair.same (fun i x H1 H2 o ho e1 yy acc R Z hR hZ => ?_) fun H1 acc e1 hacc hall => ?_
        · obtain ⟨t, x1, x2, rfl, ht, rfl, h1, h2⟩ := yy
          obtain ⟨d1, hd1, g1⟩ := hxd.get h1
          obtain ⟨d2, hd2, g2⟩ := hyd.get h2
          rw [hd1] at hd2
          cases hd2
          have et : Same H1 (upd H1 t (.tup [x1, x2])) := Same.new ht
          have eo : o = some (.bool true) := by
            rw [List.getElem?_replicate] at ho
            split at ho
            · exact (Option.some.inj ho).symm
            · cases ho
          refine ⟨t, _, rfl, SqT.of upd_same, rfl, _, _, rfl, _, _, rfl, rfl, rfl, ?_⟩
          refine ⟨_, rfl, _, rfl, x1, x2, d1, rfl, Dp.same (e1.trans et) _ _ g1, Dp.same (e1.trans et) _ _ g2, ?_, okSs_get (okS_lst hok).2 hd1, fun H3 e3 => hR _ _ _ eo e3 fun H' _ => .bl _⟩
          have := depth_get hd1
          have hn' : PyData.depthAll ds + 1 ≤ n + 1 := hn
          omega
        · have hac := dpAll_bools (ns := List.replicate ds.length true) (by
            have h := hall H1 (But.refl _ _)
            rwa [filterMap_rep] at h)
          refine ⟨D, _, rfl, SqL.of (by rw [hacc, hac]), ?_⟩
          rw [all_true]
          exact k _ (e0.trans e1)
      | tuple ds =>
        refine ⟨_, tp, _, _, _, true, rfl, ht0, pair_ty2 _ _, ty, ia_tuple, true, rfl, ?_⟩
        obtain ⟨a, xs, rfl, hxs, hxd⟩ := hv0.tup_inv
        obtain ⟨b, ys, rfl, hys, hyd⟩ := hu0.tup_inv
        have hxl := hxd.len
        have hyl := hyd.len
        refine ⟨_, rfl, _, _, _, _, false, rfl, .ty _, tyv, io_tl, _, rfl, _, _, _, _, false, rfl, .ty _, ty, io_tl, rfl, _, rfl, ?_⟩
        refine ⟨_, rfl, _, _, _, _, true, rfl, .ty _, tyv, io_tt, _, rfl, _, _, _, _, true, rfl, .ty _, ty, io_tt, rfl, _, rfl, ?_⟩
        refine ⟨_, rfl, a, xs, rfl, .inr hxs, _, rfl, b, ys, rfl, .inr hys, rfl, _, rfl, ?_⟩
        rw [hxl, hyl, decide_eq_true rfl]
        refine ⟨_, rfl, _, rfl, a, b, xs, ys, rfl, .inr ⟨hxs, hys, fun D hD => ?_⟩⟩
        refine lc_pure (K := K) (walk_zipT (K := K) (a := a) (b := b) (xs := xs) (ys := ys) (n := ds.length) (by omega)) (List.replicate ds.length (some (.bool true))) (by rw [List.length_replicate]) (Nat.le_trans (okS_tup hok).1 (by rw [sizeLine_eq]; decide)) hD (fun H' e => ⟨(KpT.of_same e).seq hxs, (KpT.of_same e).seq hys⟩) YPair.same (fun i x H1 H2 o ho e1 yy acc R Z hR hZ => ?_) fun H1 acc e1 hacc hall => ?_
        · obtain ⟨t, x1, x2, rfl, ht, rfl, h1, h2⟩ := yy
          obtain ⟨d1, hd1, g1⟩ := hxd.get h1
          obtain ⟨d2, hd2, g2⟩ := hyd.get h2
          rw [hd1] at hd2
          cases hd2
          have et : Same H1 (upd H1 t (.tup [x1, x2])) := Same.new ht
          have eo : o = some (.bool true) := by
            rw [List.getElem?_replicate] at ho
            split at ho
            · exact (Option.some.inj ho).symm
            · cases ho
          refine ⟨t, _, rfl, SqT.of upd_same, rfl, _, _, rfl, _, _, rfl, rfl, rfl, ?_⟩
          refine ⟨_, rfl, _, rfl, x1, x2, d1, rfl, Dp.same (e1.trans et) _ _ g1, Dp.same (e1.trans et) _ _ g2, ?_, okSs_get (okS_tup hok).2 hd1, fun H3 e3 => hR _ _ _ eo e3 fun H' _ => .bl _⟩
          have := depth_get hd1
          have hn' : PyData.depthAll ds + 1 ≤ n + 1 := hn
          omega
        · have hac := dpAll_bools (ns := List.replicate ds.length true) (by
            have h := hall H1 (But.refl _ _)
            rwa [filterMap_rep] at h)
          refine ⟨D, _, rfl, SqL.of (by rw [hacc, hac]), ?_⟩
          rw [all_true]
          exact k _ (e0.trans e1)
end
end K26
end
section
set_option Elab.async false
set_option linter.all false
set_option maxRecDepth 100000
set_option maxHeartbeats 400000
/-! _law_much, _law_flows, _law_undone -/
namespace K26
open PySem PySem.Spec PyProof.Rows L2
/-- the FRACTIONS that are drawn, in sixths -/
def table : List Int := [6, -6, 3, -3, 12, 2, -12, 6, -6, 0]
theorem table_le : ∀ m ∈ table, m.natAbs ≤ 12 := by decide
theorem fq_table : table.map fq = [(1, 1), (-1, 1), (1, 2), (-1, 2), (2, 1), (1, 3), (-2, 1), (1, 1), (-1, 1), (0, 1)] := by decide
section
variable {K : PySem.W.Frag}
theorem tbl {H : Hp} {p : Addr} {vs : List V} {ds : List PyData} {a b m : Int} (hd : DpAll K H vs ds) (hp : H p = none) (h : fq m = (a, b)) : DpAll K (upd H p (.tup [.int a, .int b])) (vs ++ [.ref p]) (ds ++ [fD m]) := by
  refine DpAll.app (DpAll.same (Same.new hp) _ _ hd) (DpAll.one (.tup (SqT.of upd_same) ?_))
  rw [h]
  exact .two (.int _) (.int _)
end
section
variable {P : Program} {w : World} {K : PySem.W.Frag} {mg : Str → Option Value} {base : Heap}
def spMuch (K : PySem.W.Frag) : Sp := fun vs H Q _ => ∃ (l : Addr) (n : Nat), vs = [.ref l] ∧ UrnAt H l n ∧ n ≤ 1000 ∧ ∀ v m H', But l H H' → UrnAt H' l (n + 1) → Dp K H' v (fD m) → m.natAbs ≤ 12 → Q v H'
theorem ok_much (T : Tx K mg) : FnOk P w K mg base CX0 2 T.fLMuch T.fdLMuch ["_law_urn"] (spMuch K) := by
  have G : FnOk P w K mg base CX0 1 T.fLTake T.fdLTake ["_law_urn", "_law_low_so"] (spTake K) := ok_take T
  refine ok0 T.FLMuch scLMuch (fun vs H Q E h => ?_) (fun cdv A outer s H vs Q E hr h => ?_)
  · obtain ⟨l, n, rfl, _⟩ := h
    rfl
  · obtain ⟨l, n, rfl, hu, hn, k⟩ := h
    refine ⟨_, pss_one (ps_ret (pe_ix ix_tup (pe_tup
      (pa_cons (pe_tup (pa_cons pe_int (pa_cons pe_int pa_nil)))
      (pa_cons (pe_tup (pa_cons (pe_un un_neg pe_int) (pa_cons pe_int pa_nil)))
      (pa_cons (pe_tup (pa_cons pe_int (pa_cons pe_int pa_nil)))
      (pa_cons (pe_tup (pa_cons (pe_un un_neg pe_int) (pa_cons pe_int pa_nil)))
      (pa_cons (pe_tup (pa_cons pe_int (pa_cons pe_int pa_nil)))
      (pa_cons (pe_tup (pa_cons pe_int (pa_cons pe_int pa_nil)))
      (pa_cons (pe_tup (pa_cons (pe_un un_neg pe_int) (pa_cons pe_int pa_nil)))
      (pa_cons (pe_tup (pa_cons pe_int (pa_cons pe_int pa_nil)))
      (pa_cons (pe_tup (pa_cons (pe_un un_neg pe_int) (pa_cons pe_int pa_nil)))
      (pa_cons (pe_tup (pa_cons pe_int (pa_cons pe_int pa_nil))) pa_nil)))))))))))
      (pe_call G hr rfl T.gLTake T.FLTake.kp T.bLTake .nil pass0 (pa_cons (pv 0) (pa_cons pe_int pa_nil))) (fun _ _ => rfl))), ?_⟩
    have le2 : 2 ≤ sizeLine := by decide
    refine ⟨le2, fun p0 h0 => ⟨_, rfl, le2, fun p1 h1 => ⟨le2, fun p2 h2 => ⟨_, rfl, le2, fun p3 h3 => ⟨le2, fun p4 h4 => ⟨le2, fun p5 h5 => ⟨_, rfl, le2, fun p6 h6 => ⟨le2, fun p7 h7 => ⟨_, rfl, le2, fun p8 h8 => ⟨le2, fun p9 h9 => ⟨by show 10 ≤ sizeLine; decide, fun t ht => ?_⟩⟩⟩⟩⟩⟩⟩⟩⟩⟩⟩
    have d0 := tbl (K := K) (m := 6) (a := 1) (b := 1) (.nil) h0 (by decide)
    have d1 := tbl (m := -6) (a := -1) (b := 1) d0 h1 (by decide)
    have d2 := tbl (m := 3) (a := 1) (b := 2) d1 h2 (by decide)
    have d3 := tbl (m := -3) (a := -1) (b := 2) d2 h3 (by decide)
    have d4 := tbl (m := 12) (a := 2) (b := 1) d3 h4 (by decide)
    have d5 := tbl (m := 2) (a := 1) (b := 3) d4 h5 (by decide)
    have d6 := tbl (m := -12) (a := -2) (b := 1) d5 h6 (by decide)
    have d7 := tbl (m := 6) (a := 1) (b := 1) d6 h7 (by decide)
    have d8 := tbl (m := -6) (a := -1) (b := 1) d7 h8 (by decide)
    have d9 := tbl (m := 0) (a := 0) (b := 1) d8 h9 (by decide)
    have e9 := ((((((((((Same.new h0).trans (Same.new h1)).trans (Same.new h2)).trans (Same.new h3)).trans (Same.new h4)).trans (Same.new h5)).trans (Same.new h6)).trans (Same.new h7)).trans (Same.new h8)).trans (Same.new h9)).trans (Same.new (o := .tup [.ref p0, .ref p1, .ref p2, .ref p3, .ref p4, .ref p5, .ref p6, .ref p7, .ref p8, .ref p9]) ht)
    have d10 := DpAll.same (Same.new (o := .tup [.ref p0, .ref p1, .ref p2, .ref p3, .ref p4, .ref p5, .ref p6, .ref p7, .ref p8, .ref p9]) ht) _ _ d9
    have ds : DpAll K _ [.ref p0, .ref p1, .ref p2, .ref p3, .ref p4, .ref p5, .ref p6, .ref p7, .ref p8, .ref p9] (table.map fD) := d10
    refine ⟨_, rfl, l, 10, n, rfl, hu.same e9, hn, by decide, by decide, fun r H' hb hu' hr' => ?_⟩
    obtain ⟨a, b, c, hl, _⟩ := hu.same e9
    have kt : KpT _ H' := KpT.of_but hb hl
    have hlt : r < table.length := hr'
    obtain ⟨v, hv, hdv⟩ := ds.at (i := r) (d := fD table[r]) (by rw [List.getElem?_map, List.getElem?_eq_getElem hlt]; rfl)
    refine ⟨t, _, _, v, rfl, rfl, kt.seq (SqT.of upd_same), atI_nat hv, ?_⟩
    exact k v table[r] H' ((But.of_same e9).trans hb) hu' (Dp.kpt kt _ _ (tupD_f _) hdv) (table_le _ (List.getElem_mem hlt))
/-- what is drawn -/
def RowOk (wide : Nat) (row : Rw) : Prop := ∀ x ∈ row, 0 ≤ x.1 ∧ x.1 < (wide : Nat) ∧ x.2.natAbs ≤ 12
def spFlows (K : PySem.W.Frag) : Sp := fun vs H Q _ => ∃ (l : Addr) (wide most n : Nat), vs = [.ref l, .int (wide : Nat), .int (most : Nat)] ∧ UrnAt H l n ∧ n ≤ 500 ∧ 0 < wide ∧ wide ≤ 100 ∧ most ≤ 4 ∧
  ∀ v row H', But l H H' → UrnAt H' l (n + 10) → Dp K H' v (rD row) → row.length ≤ most → RowOk wide row → Q v H'
theorem ok_flows (T : Tx K mg) : FnOk P w K mg base CX0 3 T.fLFlows T.fdLFlows ["_law_urn", "_law_wide_so", "_law_most_so"] (spFlows K) := by
  have G : FnOk P w K mg base CX0 2 T.fLTake T.fdLTake ["_law_urn", "_law_low_so"] (spTake K) := (ok_take T).mono (by decide)
  have G2 : FnOk P w K mg base CX0 2 T.fLMuch T.fdLMuch ["_law_urn"] (spMuch K) := ok_much T
  refine ok0 T.FLFlows scLFlows (fun vs H Q E h => ?_) (fun cdv A outer s H vs Q E hr h => ?_)
  · obtain ⟨l, wide, most, n, rfl, _⟩ := h
    rfl
  · obtain ⟨l, wide, most, n, rfl, hu, hn, hw, hw2, hm, k⟩ := h
    refine ⟨_, pss_one (ps_ret (pe_callTy call_tuple_of (by rfl) T.b_tuple PyProof.Rows.boot_tuple (pa_cons (pe_lc (own := [("_law_k", 3)]) (g := gName 3) (tt := tYes) (by rfl) scLFlows.nd (pi_range1 (by rfl) T.b_range (pa_cons (pe_call G hr rfl T.gLTake T.FLTake.kp T.bLTake .nil pass0 (pa_cons (pv 0) (pa_cons (pe_op op_add (pv 2) pe_int) pa_nil))) pa_nil)) (blkOk_by (N := nLFlows) (sc := defScope sLFlows) (by decide +kernel))
      (fun _ _ _ _ _ => pg_name (i := 3) scLFlows.nd rfl (Or.inl rfl)) (fun _ _ _ _ _ => pts_nil)
      (fun _ _ _ _ _ => pe_tup (pa_cons (pe_call G hr rfl T.gLTake T.FLTake.kp T.bLTake .nil pass0 (pa_cons (pv 0) (pa_cons (pv 1) pa_nil))) (pa_cons (pe_call G2 hr rfl T.gLMuch T.FLMuch.kp T.bLMuch .nil pass0 (pa_cons (pv 0) pa_nil)) pa_nil)))) pa_nil))), ?_⟩
    refine ⟨_, rfl, _, rfl, _, _, rfl, rfl, l, most + 1, n, rfl, hu, by omega, by omega, by omega, fun c H1 b1 u1 hc => ?_⟩
    refine ⟨_, rfl, by omega, by omega, fun D hD => ?_⟩
    have hlD : l ≠ D := fun z => by
      obtain ⟨_, _, _, q, _⟩ := u1
      rw [z, hD] at q
      cases q
    have hDH := But.free b1 (Ne.symm hlD) hD
    refine lc_it walk_range (fun i H' => But l H H' ∧ UrnAt H' l (n + 1 + 2 * i) ∧ ∃ acc row, H' D = some (.lst acc) ∧ DpAll K H' acc (row.map pD) ∧ row.length = i ∧ RowOk wide row) ⟨b1.mut hDH, ?_, [], [], upd_same, .nil, rfl, fun x h => nomatch h⟩ (fun _ _ _ _ => trivial) ?_ ?_
    · obtain ⟨x, y, z, q, r⟩ := u1
      exact ⟨x, y, z, by rw [upd_ne hlD]; exact q, r⟩
    · rintro i x H2 H3 hi ⟨b2, u2, acc, row, hacc, hd, hlen, hok⟩ ⟨rfl, rfl⟩
      have hi4 : i < 5 := by omega
      refine ⟨rfl, ?_⟩
      refine ⟨_, rfl, _, rfl, l, wide, n + 1 + 2 * i, rfl, u2, by omega, hw, by omega, fun r H4 b4 u4 hr4 => ?_⟩
      refine ⟨_, rfl, l, n + 1 + 2 * i + 1, rfl, u4, by omega, fun v m H5 b5 u5 hv hm5 => ⟨by show 2 ≤ sizeLine; decide, fun p hp => ?_⟩⟩
      have b45 := b4.trans b5
      have hDl : D ≠ l := Ne.symm hlD
      have hD5 := b45 D _ hDl hacc
      have kt : KpT H3 H5 := by
        obtain ⟨_, _, _, q, _⟩ := u2
        exact KpT.of_but b45 q
      have ep : Same H5 (upd H5 p (.tup [.int (r : Nat), v])) := Same.new hp
      have hD6 := ep _ _ hD5
      have k6 : KpT (upd H5 p (.tup [.int (r : Nat), v])) (upd (upd H5 p (.tup [.int (r : Nat), v])) D (.lst (acc ++ [.ref p]))) := KpT.upd_lst hD6
      have u6 := u5.same ep
      refine ⟨acc, hD6, lt_line ?_, ?_⟩
      · have := hd.len
        rw [List.length_map] at this
        omega
      refine ⟨((b2.trans b45).trans (But.of_same ep)).mut hDH, ?_, acc ++ [.ref p], row ++ [(((r : Nat) : Int), m)], upd_same, ?_, by rw [List.length_append, hlen]; rfl, fun x hx => ?_⟩
      · obtain ⟨x, y, z, q, r⟩ := u6
        exact UrnAt.mono ⟨x, y, z, by rw [upd_ne hlD]; exact q, r⟩ (by omega)
      · rw [List.map_append]
        refine DpAll.app (DpAll.kpt ((kt.trans (KpT.of_same ep)).trans k6) _ _ (tupDs_p _) hd) (DpAll.one (Dp.kpt k6 _ _ (tupD_p _) ?_))
        exact .tup (SqT.of upd_same) (.two (.int _) (Dp.same ep _ _ hv))
      · rcases List.mem_append.mp hx with hx | hx
        · exact hok x hx
        · rw [List.mem_singleton.mp hx]
          exact ⟨by simp, by simp; exact hr4, hm5⟩
    · rintro H2 ⟨b2, u2, acc, row, hacc, hd, hlen, hok⟩
      refine ⟨D, acc, rfl, .inl ⟨SqL.of hacc, fun q hq => ?_⟩⟩
      have ec : (((c : Nat) : Int)).toNat = c := Int.toNat_natCast c
      rw [ec] at hlen u2
      exact k _ row _ (b2.trans (But.of_same (Same.new hq))) ((u2.same (Same.new hq)).mono (by omega)) (.tup (SqT.of upd_same) (DpAll.same (Same.new hq) _ _ hd)) (by omega) hok
def spUndone (K : PySem.W.Frag) : Sp := fun vs H Q _ => ∃ (v : V) (row : Rw), vs = [v] ∧ Dp K H v (rD row) ∧ row.length ≤ 1000 ∧ ∀ v' H', Same H H' → Dp K H' v' (rD (inv row)) → Q v' H'
theorem ok_undone (T : Tx K mg) : FnOk P w K mg base CX0 1 T.fLUndone T.fdLUndone ["_law_flows_so"] (spUndone K) := by
  refine ok0 T.FLUndone scLUndone (fun vs H Q E h => ?_) (fun cdv A outer s H vs Q E hr h => ?_)
  · obtain ⟨v, row, rfl, _⟩ := h
    rfl
  · obtain ⟨v, row, rfl, hv, hl, k⟩ := h
    refine ⟨_, pss_one (ps_ret (pe_callTy call_tuple_of (by rfl) T.b_tuple PyProof.Rows.boot_tuple (pa_cons (pe_lc (own := [("_law_one_so", 1), ("_law_far", 2)]) (g := gTup K 2 (gCons (gName 1) (gCons (gName 2) gNil))) (tt := tYes) (by rfl) scLUndone.nd (pi_tup (pe_revT (pv 0))) (blkOk_by (N := nLUndone) (sc := defScope sLUndone) (by decide +kernel))
      (fun _ _ _ _ _ => pg_tup rfl (pgs_cons (pg_name (i := 1) scLUndone.nd rfl (Or.inl rfl)) (pgs_cons (pg_name (i := 2) scLUndone.nd rfl (Or.inl rfl)) pgs_nil))) (fun _ _ _ _ _ => pts_nil)
      (fun _ _ _ _ _ => pe_tup (pa_cons (pv 1) (pa_cons (pe_tup (pa_cons (pe_op op_sub pe_int (pe_ix (r := rIxT K) ix_tup (pv 2) pe_int (fun _ _ => rfl))) (pa_cons (pe_ix (r := rIxT K) ix_tup (pv 2) pe_int (fun _ _ => rfl)) pa_nil))) pa_nil)))) pa_nil))), ?_⟩
    obtain ⟨a, xs, rfl, hx, hd⟩ := hv.tup_inv
    have hxl : xs.length = row.length := by rw [hd.len, List.length_map]
    refine ⟨_, rfl, a, xs, rfl, hx, fun p hp => ⟨p, rfl, ⟨_, SqT.of upd_same⟩, fun D hD => ?_⟩⟩
    have e0 : Same H (upd H p (.tup xs.reverse)) := Same.new hp
    have hd0 : DpAll K (upd H p (.tup xs.reverse)) xs.reverse (row.reverse.map pD) := by
      rw [List.map_reverse]
      exact (DpAll.same e0 _ _ hd).rev
    have hp0 : SqT K (upd H p (.tup xs.reverse)) p xs.reverse := SqT.of upd_same
    generalize upd H p (.tup xs.reverse) = H0 at e0 hd0 hp0 hD ⊢
    refine lc_pure (K := K) (walk_tup (K := K) (a := p) (xs := xs.reverse)) (row.reverse.map fun x => some (pD (x.1, -x.2))) (by rw [List.length_map, List.length_reverse, List.length_reverse, hxl]) (le_line (by rw [List.length_reverse]; omega)) hD (fun H' e => (KpT.of_same e).seq hp0) YAt.same (fun i x H1 H2 o ho e1 yy acc R Z hR hZ => ?_) fun H1 acc e1 hacc hall => ?_
    · obtain ⟨rfl, hxi⟩ := yy
      obtain ⟨d1, hd1, hdx⟩ := hd0.get hxi
      rw [List.getElem?_map] at hd1 ho
      obtain ⟨y, hy, ey⟩ := Option.map_eq_some_iff.mp hd1
      subst ey
      rw [hy] at ho
      have eo : o = some (pD (y.1, -y.2)) := (Option.some.inj ho).symm
      obtain ⟨b, u, rfl, hb, hu⟩ := pD_inv (Dp.same e1 _ _ hdx)
      obtain ⟨c, rfl, hc⟩ := fD_inv hu
      refine ⟨b, _, rfl, hb, rfl, _, _, rfl, _, _, rfl, rfl, rfl, ?_⟩
      refine ⟨_, rfl, _, rfl, c, _, _, _, rfl, rfl, hc, at0, _, _, rfl, rfl, _, rfl, c, _, _, _, rfl, rfl, hc, at1, (by show 2 ≤ sizeLine; decide), fun q hq => ⟨by show 2 ≤ sizeLine; decide, fun r hr => ?_⟩⟩
      obtain ⟨acc, hacc⟩ := acc
      have eq := Same.new (o := .tup [.int (0 - (fq y.2).1), .int (fq y.2).2]) hq
      have er := Same.new (o := .tup [.int y.1, .ref q]) hr
      refine hR _ _ _ eo (eq.trans er) (Rob.tup ?_ (tupD_p _) (er _ _ (eq _ _ hacc)))
      refine .tup (SqT.of upd_same) (.two (.int _) (Dp.same er _ _ (.tup (SqT.of upd_same) ?_)))
      rw [fq_neg]
      exact .two (.int _) (.int _)
    · rw [filterMap_some] at hall
      refine ⟨D, acc, rfl, .inl ⟨SqL.of hacc, fun q hq => ?_⟩⟩
      refine k _ _ ((e0.trans e1).trans (Same.new hq)) (.tup (SqT.of upd_same) (DpAll.same (Same.new hq) _ _ ?_))
      unfold inv
      rw [List.map_map]
      exact hall H1 (But.refl _ _)
end
end K26
end
section
set_option Elab.async false
set_option linter.all false
set_option maxRecDepth 100000
set_option maxHeartbeats 400000
/-! _law_lets, _law_turns -/
namespace K26
open PySem PySem.Spec PyProof.Rows L2
section
variable {K : PySem.W.Frag} {H : Hp} {x y : V} {ds es : List PyData} {Q : VK}
theorem cat_by (hx : Dp K H x (.tuple ds)) (hy : Dp K H y (.tuple es)) (hz : ds.length + es.length ≤ 1000000) (k : ∀ v H', Same H H' → Dp K H' v (.tuple (ds ++ es)) → Q v H') : rCatA K x y H Q := by
  obtain ⟨a, xs, rfl, h1, h2⟩ := hx.tup_inv
  obtain ⟨b, ys, rfl, g1, g2⟩ := hy.tup_inv
  have l1 := h2.len
  have l2 := g2.len
  refine ⟨a, b, xs, ys, rfl, rfl, h1, g1, le_line (by omega), fun e => ?_, fun e e' => ?_, fun _ _ p hp => ?_⟩
  · subst e
    cases h2
    exact k _ _ (Same.refl H) hy
  · subst e'
    cases g2
    rw [List.append_nil] at k
    exact k _ _ (Same.refl H) hx
  · exact k _ _ (Same.new hp) (.tup (SqT.of upd_same) (DpAll.same (Same.new hp) _ _ (h2.app g2)))
theorem sl_by {lo hi : Option Int} {zs : List PyData} (hx : Dp K H x (.tuple ds)) (hz : ∀ vs : List V, vs.length = ds.length → DpAll K H vs ds → DpAll K H (cutV vs lo hi) zs) (hw : HT.sIx ds.length 0 lo = 0 ∧ HT.sIx ds.length ds.length hi = ds.length → zs = ds) (k : ∀ v H', Same H H' → Dp K H' v (.tuple zs) → Q v H') : rSlA K x lo hi H Q := by
  obtain ⟨a, xs, rfl, h1, h2⟩ := hx.tup_inv
  have l1 := h2.len
  refine ⟨a, xs, rfl, h1, fun e => ?_, fun _ p hp => ?_⟩
  · rw [l1] at e
    rw [hw e] at k
    exact k _ _ (Same.refl H) hx
  · exact k _ _ (Same.new hp) (.tup (SqT.of upd_same) (DpAll.same (Same.new hp) _ _ (hz xs l1 h2)))
theorem sl_take {i : Nat} {j : Int} (e : j = (i : Nat)) (hx : Dp K H x (.tuple ds)) (k : ∀ v H', Same H H' → Dp K H' v (.tuple (ds.take i)) → Q v H') : rSlA K x none (some j) H Q := by
  subst e
  refine sl_by hx (fun vs _ h => by rw [cutV_take]; exact h.take i) (fun e => ?_) k
  have := e.2
  rw [HT.sIx_nat] at this
  exact List.take_of_length_le (by omega)
theorem sl_drop {i : Nat} {j : Int} (e : j = (i : Nat)) (hx : Dp K H x (.tuple ds)) (k : ∀ v H', Same H H' → Dp K H' v (.tuple (ds.drop i)) → Q v H') : rSlA K x (some j) none H Q := by
  subst e
  refine sl_by hx (fun vs _ h => by rw [cutV_drop]; exact h.drop i) (fun e => ?_) k
  have := e.1
  rw [HT.sIx_nat] at this
  have h2 : i = 0 ∨ ds.length = 0 := by omega
  rcases h2 with h | h
  · rw [h, List.drop_zero]
  · rw [List.length_eq_zero_iff.mp h, List.drop_nil]
/-- of rows -/
theorem cat_row {r s : Rw} (hx : Dp K H x (rD r)) (hy : Dp K H y (rD s)) (hz : r.length + s.length ≤ 1000000) (k : ∀ v H', Same H H' → Dp K H' v (rD (r ++ s)) → Q v H') : rCatA K x y H Q := by
  refine cat_by hx hy (by rw [List.length_map, List.length_map]; exact hz) fun v H' e h => k v H' e ?_
  unfold rD
  rw [List.map_append]
  exact h
theorem take_row {r : Rw} {i : Nat} {j : Int} (e : j = (i : Nat)) (hx : Dp K H x (rD r)) (k : ∀ v H', Same H H' → Dp K H' v (rD (r.take i)) → Q v H') : rSlA K x none (some j) H Q := by
  refine sl_take e hx fun v H' e h => k v H' e ?_
  unfold rD
  rw [List.map_take]
  exact h
theorem drop_row {σ : L2.St} {r : Rw} {j : Int} (i : Nat) (hx : Dp K H x (rD r)) (e : j = (i : Nat)) (k : ∀ v H', Same H H' → Dp K H' v (rD (r.drop i)) → Q v H') : tNoPart σ H fun u H3 => rSlA K x (some j) u H3 Q := by
  refine sl_drop e hx fun v H' e h => k v H' e ?_
  unfold rD
  rw [List.map_drop]
  exact h
/-- a list of rows at l -/
def RowsAt (K : PySem.W.Frag) (H : Hp) (l : Addr) (rs : List Rw) : Prop := ∃ xs, H l = some (.lst xs) ∧ DpAll K H xs (rs.map rD)
theorem RowsAt.same {H' : Hp} {l : Addr} {rs : List Rw} (e : Same H H') (h : RowsAt K H l rs) : RowsAt K H' l rs := by
  obtain ⟨xs, h1, h2⟩ := h
  exact ⟨xs, e _ _ h1, DpAll.same e _ _ h2⟩
/-- append at f -/
theorem rows_push {σ : L2.St} {H0 : Hp} {f : Addr} {rs : List Rw} {r : Rw} {v : V} (h : RowsAt K H f rs) (hl : rs.length < 1000000) (hv : Dp K H v (rD r)) (hf : H0 f = none) (e : Same H0 H) (k : ∀ H', Same H0 H' → RowsAt K H' f (rs ++ [r]) → Q .non H') : tNil σ H fun us H2 => rAppend (.ref f) (v :: us) H2 Q := by
  obtain ⟨xs, h1, h2⟩ := h
  have hlen := h2.len
  rw [List.length_map] at hlen
  have k6 : KpT H (upd H f (.lst (xs ++ [v]))) := KpT.upd_lst h1
  refine ⟨f, xs, v, rfl, rfl, h1, lt_line (by omega), k _ (Same.mut e hf) ⟨_, upd_same, ?_⟩⟩
  rw [List.map_append]
  exact DpAll.app (DpAll.kpt k6 _ _ (tupDs_r rs) h2) (DpAll.one (Dp.kpt k6 _ _ (tupD_r r) hv))
theorem zero_len (r : Rw) (n : Nat) : (zeroAt r n).length ≤ 1 := by
  unfold zeroAt
  split
  · split <;> simp
  · simp
theorem RowsAt.seq {f : Addr} {rs : List Rw} (h : RowsAt K H f rs) : ∃ xs, SqL K H f xs := by
  obtain ⟨xs, h1, _⟩ := h
  exact ⟨xs, SqL.of h1⟩
end
section
variable {P : Program} {w : World} {K : PySem.W.Frag} {mg : Str → Option Value} {base : Heap}
def spTurns (K : PySem.W.Frag) : Sp := fun vs H Q _ => ∃ (v m : V) (row : Rw) (L : List (Int × Int)), vs = [v, m] ∧ Dp K H v (rD row) ∧ Dp K H m (mD L) ∧ row.length ≤ 1000 ∧
  ∀ f H', Same H H' → H f = none → RowsAt K H' f (turns (fr L) row) → Q (.ref f) H'
theorem ok_turns (T : Tx K mg) : FnOk P w K mg base CX0 3 T.fLTurns T.fdLTurns ["_law_flows_so", "_law_lets_so"] (spTurns K) := by
  have G1 : FnOk P w K mg base CX0 2 T.fLAdd T.fdLAdd ["_law_own", "_law_far"] (spPlus K) := ok_add T
  have G2 : FnOk P w K mg base CX0 2 T.fLFree T.fdLFree ["_law_one_so", "_law_two_so", "_law_lets_so"] (spGo K) := (ok_free T).mono (by decide)
  refine ok0 T.FLTurns scLTurns (fun vs H Q E h => ?_) (fun cdv A outer s H vs Q E hr h => ?_)
  · obtain ⟨v, m, row, L, rfl, _⟩ := h
    rfl
  · obtain ⟨v, m, row, L, rfl, hv, hm, hlen, k⟩ := h
    refine ⟨_, pss_cons (ps_set (i := 2) scLTurns.nd rfl (Or.inl rfl) (pe_lst pa_nil))
      (pss_cons (ps_for PassesOwn.never rfl (pi_range1 (by rfl) T.b_range (pa_cons (pe_callB call_len_seq (by rfl) T.b_len PySem.boot_len (pa_cons (pv 0) pa_nil)) pa_nil)) (pg_name (i := 3) scLTurns.nd rfl (Or.inl rfl))
        (pss_cons (ps_if (pt_cmpR op_eq (pe_ix ix_tup (pe_ix ix_tup (pe_ix ix_tup (pv 0) (pv 3) (fun _ _ => rfl)) pe_int (fun _ _ => rfl)) pe_int (fun _ _ => rfl)) pe_int (nomark _))
          (pss_one (ps_expr (pe_bm PySem.F.plainAttrs_list PySem.F.slot_list_append PySem.F.type_list_append mt_append (pv 2) (pa_cons (pe_op op_catA (pe_slice sl_tupA (pv 0) po_none (po_some (pv 3))) (pe_slice sl_tupA (pv 0) (po_some (pe_op op_add (pv 3) pe_int)) po_none)) pa_nil)))) pss_nil)
        (pss_one (ps_if (pt_cmpR op_lt (pe_op op_add (pv 3) pe_int) (pe_callB call_len_seq (by rfl) T.b_len PySem.boot_len (pa_cons (pv 0) pa_nil)) (nomark _))
          (pss_cons (ps_par (i := 4) (j := 5) (by rfl) scLTurns.nd rfl rfl (by decide) rfl rfl (pa_cons (pe_ix ix_tup (pv 0) (pv 3) (fun _ _ => rfl)) (pa_cons (pe_ix ix_tup (pv 0) (pe_op op_add (pv 3) pe_int) (fun _ _ => rfl)) pa_nil)) (by rfl))
          (pss_one (ps_if (pt_cmpR op_eq (pe_ix ix_tup (pv 4) pe_int (fun _ _ => rfl)) (pe_ix ix_tup (pv 5) pe_int (fun _ _ => rfl)) (nomark _))
            (pss_one (ps_expr (pe_bm PySem.F.plainAttrs_list PySem.F.slot_list_append PySem.F.type_list_append mt_append (pv 2) (pa_cons (pe_op op_catA (pe_op op_catA (pe_slice sl_tupA (pv 0) po_none (po_some (pv 3)))
              (pe_tup (pa_cons (pe_tup (pa_cons (pe_ix ix_tup (pv 4) pe_int (fun _ _ => rfl)) (pa_cons (pe_call G1 hr rfl T.gLAdd T.FLAdd.kp T.bLAdd .nil pass0 (pa_cons (pe_ix ix_tup (pv 4) pe_int (fun _ _ => rfl)) (pa_cons (pe_ix ix_tup (pv 5) pe_int (fun _ _ => rfl)) pa_nil))) pa_nil))) pa_nil)))
              (pe_slice sl_tupA (pv 0) (po_some (pe_op op_add (pv 3) pe_int)) po_none)) pa_nil))))
            (pss_one (ps_if (pt_val (pe_call G2 hr rfl T.gLFree T.FLFree.kp T.bLFree .nil pass0 (pa_cons (pe_ix ix_tup (pv 4) pe_int (fun _ _ => rfl)) (pa_cons (pe_ix ix_tup (pv 5) pe_int (fun _ _ => rfl)) (pa_cons (pv 1) pa_nil)))))
              (pss_one (ps_expr (pe_bm PySem.F.plainAttrs_list PySem.F.slot_list_append PySem.F.type_list_append mt_append (pv 2) (pa_cons (pe_op op_catA (pe_op op_catA (pe_slice sl_tupA (pv 0) po_none (po_some (pv 3))) (pe_tup (pa_cons (pv 5) (pa_cons (pv 4) pa_nil))))
                (pe_slice sl_tupA (pv 0) (po_some (pe_op op_add (pv 3) pe_int)) po_none)) pa_nil)))) pss_nil)))))
          pss_nil))))
      (pss_one (ps_ret (pv 2)))), ?_⟩
    refine ⟨Nat.zero_le _, fun f hf => ?_⟩
    have e0 : Same H (upd H f (.lst [])) := Same.new hf
    obtain ⟨a, xs, rfl, ha, hd⟩ := hv.tup_inv
    have hxl : xs.length = row.length := by rw [hd.len, List.length_map]
    refine ⟨_, rfl, a, xs, rfl, .inr ((KpT.of_same e0).seq ha), _, rfl, by omega, by omega, ?_⟩
    have en : (((xs.length : Nat) : Int)).toNat = row.length := by omega
    rw [en]
    refine for_it walk_range (fun i σ H' => ∃ v3 v4 v5, σ = [some (.ref a), some m, some (.ref f), v3, v4, v5] ∧ Same H H' ∧ RowsAt K H' f (turnsTo (fr L) row i)) ⟨none, none, none, rfl, e0, [], upd_same, .nil⟩ (fun _ _ _ _ _ => trivial) ?_ ?_
    · rintro i x σ H1 H2 hi ⟨v3, v4, v5, rfl, e1, hR⟩ ⟨rfl, rfl⟩
      have hx0 : (0 : Int) + ((i : Nat) : Int) = ((i : Nat) : Int) := Int.zero_add _
      show tSeq _ _ _ [some (V.ref a), some m, some (V.ref f), some (V.int (0 + ((i : Nat) : Int))), v4, v5] _
      rw [hx0]
      have hsuc := turnsTo_succ (fr L) row i
      have hln := turns_len (c := fr L) row i
      have hln2 := turns_len (c := fr L) row (i + 1)
      obtain ⟨y, hy⟩ : ∃ y, row[i]? = some y := ⟨row[i], List.getElem?_eq_getElem hi⟩
      obtain ⟨z1, hz1, hdz1⟩ := hd.at (i := i) (d := pD y) (by rw [List.getElem?_map, hy]; rfl)
      obtain ⟨b1, u1, rfl, hb1, hu1⟩ := pD_inv (Dp.same e1 _ _ hdz1)
      obtain ⟨c1, rfl, hc1⟩ := fD_inv hu1
      have hv1 := Dp.same e1 _ _ hv
      have ha1 := (KpT.of_same e1).seq ha
      refine ⟨_, rfl, _, rfl, a, xs, _, _, rfl, rfl, ha1, atI_nat hz1, b1, _, _, _, rfl, rfl, hb1, at1, c1, _, _, _, rfl, rfl, hc1, at0, rfl, _, rfl, ite2 (fun h => ?_) (fun h => ?_)⟩
      have hm0 : y.2 = 0 := fq_top_zero.mp (V.int.inj (of_decide_eq_true h))
      have hz : zeroAt row i = [row.take i ++ row.drop (i + 1)] := by
        unfold zeroAt
        rw [hy]
        simp only
        rw [if_pos hm0]
      refine ⟨_, rfl, .inl ⟨rfl, hR.seq⟩, _, rfl, _, rfl, _, rfl, take_row (i := i) (by omega) hv1 fun w1 H3 e3 hw1 => ?_⟩
      refine ⟨_, rfl, _, rfl, _, _, rfl, rfl, _, rfl, drop_row (i + 1) (Dp.same e3 _ _ hv1) (by omega) fun w2 H4 e4 hw2 => ?_⟩
      refine cat_row (Dp.same e4 _ _ hw1) hw2 (by rw [List.length_take, List.length_drop]; omega) fun w3 H5 e5 hw3 => ?_
      have e35 := (e3.trans e4).trans e5
      refine rows_push (hR.same e35) (by omega) hw3 hf (e1.trans e35) fun H6 e6 hR6 => ?_
      rw [← hz] at hR6
      rotate_left
      have hm0 : ¬ y.2 = 0 := fun z => h (decide_eq_true (congrArg V.int (fq_top_zero.mpr z)))
      have hz : zeroAt row i = [] := by
        unfold zeroAt
        rw [hy]
        simp only
        rw [if_neg hm0]
      have e6 := e1
      have hR6 := hR
      rw [← List.append_nil (turnsTo (fr L) row i), ← hz] at hR6
      all_goals
        have hv6 := Dp.same e6 _ _ hv
        have ha6 := (KpT.of_same e6).seq ha
        have hm6 := Dp.same e6 _ _ hm
        obtain ⟨b1', u1', q1, hb6, hu6⟩ := pD_inv (Dp.same e6 _ _ hdz1)
        cases q1
        have hl6 := zero_len row i
        have hl7 : (turnsTo (fr L) row i ++ zeroAt row i).length < 1000000 := by
          rw [List.length_append]
          omega
        rw [← List.append_assoc] at hsuc
        refine ⟨_, rfl, _, _, rfl, rfl, _, rfl, a, xs, rfl, .inr ha6, _, _, rfl, rfl, _, rfl, ite2 (fun g => ?_) (fun g => ?_)⟩
        · have hlt : i + 1 < row.length := by
            have g2 := of_decide_eq_true g
            omega
          obtain ⟨y2, hy2⟩ : ∃ y2, row[i + 1]? = some y2 := ⟨row[i + 1], List.getElem?_eq_getElem hlt⟩
          obtain ⟨z2, hz2, hdz2⟩ := hd.at (i := i + 1) (d := pD y2) (by rw [List.getElem?_map, hy2]; rfl)
          obtain ⟨b2, u2, rfl, hb2, hu2⟩ := pD_inv (Dp.same e6 _ _ hdz2)
          refine ⟨_, rfl, _, rfl, a, xs, _, _, rfl, rfl, ha6, atI_nat hz1, _, rfl, _, rfl, _, _, rfl, rfl, a, xs, _, _, rfl, rfl, ha6, atI_nat (j := i + 1) hz2, _, _, rfl, ?_⟩
          refine ⟨_, rfl, _, _, _, _, rfl, rfl, hb6, at0, _, rfl, b2, _, _, _, rfl, rfl, hb2, at0, rfl, _, rfl, ite2 (fun q => ?_) (fun q => ?_)⟩
          · have hp : y.1 = y2.1 := V.int.inj (of_decide_eq_true q)
            have hpa : pairAt (fr L) row i = [row.take i ++ (y.1, y.2 + y2.2) :: row.drop (i + 2)] := by
              unfold pairAt
              rw [hy, hy2]
              simp only
              rw [if_pos hp]
            refine ⟨_, rfl, .inl ⟨rfl, hR6.seq⟩, _, rfl, _, rfl, _, rfl, take_row (i := i) (by omega) hv6 fun w1 H7 e7 hw1 => ?_⟩
            have hb7 := (KpT.of_same e7).seq hb6
            have hb27 := (KpT.of_same e7).seq hb2
            refine ⟨_, rfl, _, _, _, _, rfl, rfl, hb7, at0, _, rfl, _, _, _, _, rfl, rfl, hb7, at1, _, rfl, _, _, _, _, rfl, rfl, hb27, at1, _, _, y.2, y2.2, rfl, Dp.same e7 _ _ hu6, Dp.same e7 _ _ hu2, fun w8 H8 e8 hs => ⟨by show 2 ≤ sizeLine; decide, fun p hp => ⟨by show 1 ≤ sizeLine; decide, fun t ht => ?_⟩⟩⟩
            have ep := Same.new (o := .tup [.int y.1, w8]) hp
            have et := Same.new (o := .tup [.ref p]) ht
            have hone : Dp K (upd (upd H8 p (.tup [.int y.1, w8])) t (.tup [.ref p])) (.ref t) (rD [(y.1, y.2 + y2.2)]) := .tup (SqT.of upd_same) (.one (Dp.same et _ _ (.tup (SqT.of upd_same) (.two (.int _) (Dp.same ep _ _ hs)))))
            have e78 := (e7.trans e8).trans (ep.trans et)
            refine cat_row (Dp.same (e8.trans (ep.trans et)) _ _ hw1) hone (by rw [List.length_take]; simp; omega) fun w3 H9 e9 hw3 => ?_
            refine ⟨_, rfl, _, rfl, _, _, rfl, rfl, _, rfl, drop_row (i + 2) (Dp.same (e78.trans e9) _ _ hv6) (by omega) fun w4 H10 e10 hw4 => ?_⟩
            refine cat_row (Dp.same e10 _ _ hw3) hw4 (by rw [List.length_append, List.length_take, List.length_drop]; simp; omega) fun w5 H11 e11 hw5 => ?_
            have eall := ((e78.trans e9).trans e10).trans e11
            refine rows_push (hR6.same eall) hl7 hw5 hf (e6.trans eall) fun H12 e12 hR12 => ⟨_, _, _, rfl, e12, ?_⟩
            rw [hsuc, hpa]
            rw [List.append_assoc (row.take i)] at hR12
            exact hR12
          · have hp : ¬ y.1 = y2.1 := fun z => q (decide_eq_true (congrArg V.int z))
            refine ⟨_, rfl, _, _, _, _, rfl, rfl, hb6, at0, _, rfl, b2, _, _, _, rfl, rfl, hb2, at0, _, rfl, y.1, y2.1, m, L, rfl, hm6, fun H7 e7 => ⟨_, rfl, ite2 (fun c => ?_) (fun c => ?_)⟩⟩
            · have hpa : pairAt (fr L) row i = [row.take i ++ y2 :: y :: row.drop (i + 2)] := by
                unfold pairAt
                rw [hy, hy2]
                simp only
                rw [if_neg hp, if_pos c]
              have hR7 := hR6.same e7
              have hv7 := Dp.same e7 _ _ hv6
              refine ⟨_, rfl, .inl ⟨rfl, hR7.seq⟩, _, rfl, _, rfl, _, rfl, take_row (i := i) (by omega) hv7 fun w1 H8 e8 hw1 => ?_⟩
              refine ⟨_, rfl, _, rfl, (by show 2 ≤ sizeLine; decide), fun t ht => ?_⟩
              have et := Same.new (o := .tup [V.ref b2, V.ref b1]) ht
              have h678 := e6.trans (e7.trans (e8.trans et))
              have htwo : Dp K (upd H8 t (.tup [V.ref b2, V.ref b1])) (.ref t) (rD [y2, y]) := .tup (SqT.of upd_same) (.two (Dp.same h678 _ _ hdz2) (Dp.same h678 _ _ hdz1))
              refine cat_row (Dp.same et _ _ hw1) htwo (by rw [List.length_take]; simp; omega) fun w3 H9 e9 hw3 => ?_
              have e79 := e8.trans (et.trans e9)
              refine ⟨_, rfl, _, rfl, _, _, rfl, rfl, _, rfl, drop_row (i + 2) (Dp.same e79 _ _ hv7) (by omega) fun w4 H10 e10 hw4 => ?_⟩
              refine cat_row (Dp.same e10 _ _ hw3) hw4 (by rw [List.length_append, List.length_take, List.length_drop]; simp; omega) fun w5 H11 e11 hw5 => ?_
              have eall := (e79.trans e10).trans e11
              refine rows_push (hR7.same eall) hl7 hw5 hf ((e6.trans e7).trans eall) fun H12 e12 hR12 => ⟨_, _, _, rfl, e12, ?_⟩
              rw [hsuc, hpa]
              rw [List.append_assoc (row.take i)] at hR12
              exact hR12
            · have hpa : pairAt (fr L) row i = [] := by
                unfold pairAt
                rw [hy, hy2]
                simp only
                rw [if_neg hp, if_neg c]
              refine ⟨_, _, _, rfl, e6.trans e7, ?_⟩
              rw [hsuc, hpa, List.append_nil]
              exact hR6.same e7
        · have hpa : pairAt (fr L) row i = [] := by
            have hno : row[i + 1]? = none := by
              rw [List.getElem?_eq_none_iff]
              have g2 : ¬ (((i : Nat) : Int) + 1 < ((xs.length : Nat) : Int)) := fun z => g (decide_eq_true z)
              omega
            unfold pairAt
            rw [hy, hno]
          refine ⟨_, _, _, rfl, e6, ?_⟩
          rw [hsuc, hpa, List.append_nil]
          exact hR6
    · rintro σ H' ⟨v3, v4, v5, rfl, e1, hR⟩
      exact ⟨_, rfl, k f H' e1 hf hR⟩
end
end K26
end
section
set_option Elab.async false
set_option linter.all false
set_option maxRecDepth 100000
set_option maxHeartbeats 400000
/-! _law_lets, _law_drawn_turns -/
namespace K26
open PySem PySem.Spec PyProof.Rows L2
section
variable {P : Program} {w : World} {K : PySem.W.Frag} {mg : Str → Option Value} {base : Heap}
def Rising (wide : Nat) (L : List (Int × Int)) : Prop := ∀ p ∈ L, 0 ≤ p.1 ∧ p.1 < p.2 ∧ p.2 < (wide : Nat)
def spLets (K : PySem.W.Frag) : Sp := fun vs H Q _ => ∃ (l : Addr) (wide n : Nat), vs = [.ref l, .int (wide : Nat)] ∧ UrnAt H l n ∧ n ≤ 500 ∧ wide ≤ 3 ∧
  ∀ v L H', But l H H' → UrnAt H' l (n + 9) → Dp K H' v (mD L) → L.length ≤ 9 → Rising wide L → Q v H'
theorem ok_lets (T : Tx K mg) : FnOk P w K mg base CX0 2 T.fLLets T.fdLLets ["_law_urn", "_law_wide_so"] (spLets K) := by
  have G : FnOk P w K mg base CX0 1 T.fLTake T.fdLTake ["_law_urn", "_law_low_so"] (spTake K) := ok_take T
  refine ok0 T.FLLets scLLets (fun vs H Q E h => ?_) (fun cdv A outer s H vs Q E hr h => ?_)
  · obtain ⟨l, wide, n, rfl, _⟩ := h
    rfl
  · obtain ⟨l, wide, n, rfl, hu, hn, hw, k⟩ := h
    refine ⟨_, pss_cons (ps_set (i := 2) scLLets.nd rfl (Or.inl rfl) (pe_lst pa_nil))
      (pss_cons (ps_for PassesOwn.never rfl (pi_range1 (by rfl) T.b_range (pa_cons (pv 1) pa_nil)) (pg_name (i := 3) scLLets.nd rfl (Or.inr rfl))
        (pss_one (ps_set (i := 2) scLLets.nd rfl (Or.inl rfl) (pe_op op_cat (pv 2) (pe_lc (own := [("_law_k", 4)]) (g := gName 4) (by rfl) scLLets.nd (pi_range2 (by rfl) T.b_range (pa_cons (pe_op op_add (pv 3) pe_int) (pa_cons (pv 1) pa_nil))) (blkOk_by (N := nLLets) (sc := defScope sLLets) (by decide +kernel))
          (fun _ _ _ _ _ => pg_name (i := 4) scLLets.nd rfl (Or.inl rfl)) (fun _ _ _ _ _ => pts_one (pt_cmpR op_eq (pe_call G hr rfl T.gLTake T.FLTake.kp T.bLTake .nil pass0 (pa_cons (pv 0) (pa_cons pe_int pa_nil))) pe_int (nomark _)))
          (fun _ _ _ _ _ => pe_tup (pa_cons (pv 3) (pa_cons (pv 4) pa_nil))))))))
      (pss_one (ps_ret (pe_callTy call_tuple_of (by rfl) T.b_tuple PyProof.Rows.boot_tuple (pa_cons (pv 2) pa_nil))))), ?_⟩
    refine ⟨Nat.zero_le _, fun f hf => ?_⟩
    have e0 : Same H (upd H f (.lst [])) := Same.new hf
    have nfl : f ≠ l := fun z => by
      obtain ⟨_, _, _, q, _⟩ := hu
      rw [z, q] at hf
      cases hf
    refine ⟨_, rfl, _, rfl, by omega, by omega, ?_⟩
    rw [Int.toNat_natCast]
    refine for_it walk_range (fun i σ H' => ∃ v3 v4 g acc L, σ = [some (.ref l), some (.int (wide : Nat)), some (.ref g), v3, v4] ∧ g ≠ l ∧ But l H H' ∧ UrnAt H' l (n + 3 * i) ∧ H' g = some (.lst acc) ∧ DpAll K H' acc (L.map pairI) ∧ L.length ≤ 3 * i ∧ Rising wide L)
      ⟨none, none, f, [], [], rfl, nfl, But.of_same e0, hu.same e0, upd_same, .nil, Nat.zero_le _, fun p h => nomatch h⟩ (fun _ _ _ _ _ => trivial) ?_ ?_
    · rintro i x σ H1 H2 hi ⟨v3, v4, g, acc, L, rfl, ngl, b1, u1, hg, hd, hlen, hris⟩ ⟨rfl, rfl⟩
      have hx0 : (0 : Int) + ((i : Nat) : Int) = ((i : Nat) : Int) := Int.zero_add _
      show tAsg _ _ _ [some (V.ref l), some (V.int ((wide : Nat) : Int)), some (V.ref g), some (V.int (0 + ((i : Nat) : Int))), v4] _
      rw [hx0]
      refine ⟨_, rfl, _, rfl, _, _, rfl, rfl, _, rfl, _, _, rfl, ⟨by omega, by omega, by omega, by omega⟩, fun D hD => ?_⟩
      have nDl : D ≠ l := fun z => by
        obtain ⟨_, _, _, q, _⟩ := u1
        rw [z, q] at hD
        cases hD
      have nDg : D ≠ g := fun z => by
        rw [z, hg] at hD
        cases hD
      have hDH := But.free b1 nDl hD
      obtain ⟨ln, hln⟩ : ∃ ln, ln = (((wide : Nat) : Int) - (((i : Nat) : Int) + 1)).toNat := ⟨_, rfl⟩
      have hln3 : ln ≤ 3 := by omega
      rw [← hln]
      refine lc_it walk_range (fun j H' => But l H H' ∧ But l H2 H' ∧ UrnAt H' l (n + 3 * i + j) ∧ H' g = some (.lst acc) ∧ KpT H2 H' ∧ ∃ acc2 L2, H' D = some (.lst acc2) ∧ DpAll K H' acc2 (L2.map pairI) ∧ L2.length ≤ j ∧ Rising wide L2)
        ⟨b1.mut hDH, (But.refl _ _).mut hD, ?_, by rw [upd_ne (Ne.symm nDg)]; exact hg, KpT.of_same (Same.new hD), [], [], upd_same, .nil, Nat.zero_le _, fun p h => nomatch h⟩ (fun _ _ _ _ => trivial) ?_ ?_
      · obtain ⟨x, y, z, q, r⟩ := u1
        exact ⟨x, y, z, by rw [upd_ne (Ne.symm nDl)]; exact q, r⟩
      · rintro j x H3 H4 hj ⟨b3, b23, u3, hg3, k3, acc2, L2, hacc2, hd2, hlen2, hris2⟩ ⟨rfl, rfl⟩
        refine ⟨rfl, ?_⟩
        refine ⟨_, rfl, l, 2, n + 3 * i + j, rfl, u3, by omega, by decide, by decide, fun r H5 b5 u5 hr5 => ⟨rfl, _, rfl, ?_⟩⟩
        have k5 : KpT H4 H5 := by
          obtain ⟨_, _, _, q, _⟩ := u3
          exact KpT.of_but b5 q
        have hg5 := b5 g _ ngl hg3
        have hD5 := b5 D _ nDl hacc2
        refine ite2 (fun _ => ?_) (fun _ => ?_)
        · refine ⟨_, rfl, _, rfl, (by show 2 ≤ sizeLine; decide), fun p hp => ?_⟩
          have ep := Same.new (o := .tup [.int ((i : Nat) : Int), .int (((i : Nat) : Int) + 1 + ((j : Nat) : Int))]) hp
          have hD6 := ep _ _ hD5
          have k6 : KpT (upd H5 p (.tup [.int ((i : Nat) : Int), .int (((i : Nat) : Int) + 1 + ((j : Nat) : Int))])) (upd (upd H5 p (.tup [.int ((i : Nat) : Int), .int (((i : Nat) : Int) + 1 + ((j : Nat) : Int))])) D (.lst (acc2 ++ [.ref p]))) := KpT.upd_lst hD6
          have hl2 := hd2.len
          rw [List.length_map] at hl2
          refine ⟨acc2, hD6, lt_line (by omega), ((b3.trans b5).trans (But.of_same ep)).mut hDH, ((b23.trans b5).trans (But.of_same ep)).mut hD, ?_, ?_, ((k3.trans k5).trans (KpT.of_same ep)).trans k6, acc2 ++ [.ref p], L2 ++ [(((i : Nat) : Int), ((i : Nat) : Int) + 1 + ((j : Nat) : Int))], upd_same, ?_, ?_, ?_⟩
          · obtain ⟨x, y, z, q, r⟩ := u5.same ep
            exact UrnAt.mono ⟨x, y, z, by rw [upd_ne (Ne.symm nDl)]; exact q, r⟩ (by omega)
          · rw [upd_ne (Ne.symm nDg)]
            exact ep _ _ hg5
          · rw [List.map_append]
            refine DpAll.app (DpAll.kpt ((k5.trans (KpT.of_same ep)).trans k6) _ _ (tupDs_pairI _) hd2) (DpAll.one (Dp.kpt k6 _ _ (tupD_pairI _) ?_))
            exact .tup (SqT.of upd_same) (.two (.int _) (.int _))
          · rw [List.length_append]
            simp only [List.length_singleton]
            omega
          · intro q hq
            rcases List.mem_append.mp hq with hq | hq
            · exact hris2 q hq
            · rw [List.mem_singleton.mp hq]
              refine ⟨?_, ?_, ?_⟩ <;> simp only <;> omega
        · exact ⟨b3.trans b5, b23.trans b5, u5.mono (by omega), hg5, k3.trans k5, acc2, L2, hD5, DpAll.kpt k5 _ _ (tupDs_pairI _) hd2, by omega, hris2⟩
      · rintro H3 ⟨b3, b23, u3, hg3, k3, acc2, L2, hacc2, hd2, hlen2, hris2⟩
        have hd3 := DpAll.kpt k3 _ _ (tupDs_pairI _) hd
        have hl1 := hd3.len
        have hl2 := hd2.len
        rw [List.length_map] at hl1 hl2
        refine ⟨g, D, acc, acc2, rfl, rfl, hg3, hacc2, le_line (by omega), fun p hp => ?_⟩
        have ep := Same.new (o := .lst (acc ++ acc2)) hp
        refine ⟨_, _, p, acc ++ acc2, L ++ L2, rfl, fun z => (by
          obtain ⟨_, _, _, q, _⟩ := u3
          rw [z, q] at hp
          cases hp), b3.trans (But.of_same ep), (u3.same ep).mono (by omega), upd_same, ?_, ?_, ?_⟩
        · rw [List.map_append]
          exact DpAll.same ep _ _ (hd3.app hd2)
        · rw [List.length_append]
          omega
        · intro q hq
          rcases List.mem_append.mp hq with hq | hq
          · exact hris q hq
          · exact hris2 q hq
    · rintro σ H' ⟨v3, v4, g, acc, L, rfl, ngl, b1, u1, hg, hd, hlen, hris⟩
      refine ⟨_, rfl, g, acc, rfl, .inl ⟨SqL.of hg, fun q hq => ?_⟩⟩
      have eq := Same.new (o := .tup acc) hq
      exact k _ L _ (b1.trans (But.of_same eq)) ((u1.same eq).mono (by omega)) (.tup (SqT.of upd_same) (DpAll.same eq _ _ hd)) (by omega) hris
end
end K26
end
section
set_option Elab.async false
set_option linter.all false
set_option maxRecDepth 100000
set_option maxHeartbeats 400000
/-! _law_drawn_turns, _law_reached -/
namespace K26
open PySem PySem.Spec PyProof.Rows L2
theorem lay_rs : ∀ l : List Rw, PyData.canLayAll0 (l.map rD) = true
  | [] => by simp [PyData.canLayAll0]
  | r :: l => by
    rw [List.map_cons, PyData.canLayAll0, lay_rs l]
    simp [rD, PyData.canLay0, lay_ps]
theorem depth_rs : ∀ l : List Rw, PyData.depthAll (l.map rD) ≤ 3
  | [] => by simp [PyData.depthAll]
  | r :: l => by
    have := depth_rs l
    have := depth_r r
    simp only [List.map_cons, PyData.depthAll]
    omega
def rsD (l : List Rw) : PyData := .list (l.map rD)
theorem shaped_rs (l : List Rw) : SeqAt.shaped (rsD l) = true := shaped_of (by unfold rsD; rw [PyData.canLay0]; exact lay_rs l) (by
  have := depth_rs l
  unfold rsD
  rw [PyData.depth]
  omega)
theorem eqv_rs_nil (l : List Rw) : (!PyData.eqv (rsD l) (rsD [])) = true ↔ l ≠ [] := by
  unfold rsD
  cases l with
  | nil => simp [PyData.eqv, PyData.eqvAll]
  | cons x l => simp [PyData.eqv, PyData.eqvAll]
section
variable {P : Program} {w : World} {K : PySem.W.Frag} {mg : Str → Option Value} {base : Heap}
theorem RowsAt.dp {K : PySem.W.Frag} {H : Hp} {l : Addr} {rs : List Rw} (h : RowsAt K H l rs) : Dp K H (.ref l) (rsD rs) := by
  obtain ⟨xs, h1, h2⟩ := h
  exact .lst (SqL.of h1) h2
theorem UrnAt.kpt {H H' : Hp} {l : Addr} {n : Nat} (h : UrnAt H l n) (b : But l H H') : KpT H H' := by
  obtain ⟨_, _, _, q, _⟩ := h
  exact KpT.of_but b q
def spDrawn (K : PySem.W.Frag) : Sp := fun vs H Q _ => ∃ (l : Addr) (v m : V) (n : Nat) (row : Rw) (L : List (Int × Int)), vs = [.ref l, v, m] ∧ UrnAt H l n ∧ n ≤ 900 ∧ Dp K H v (rD row) ∧ Dp K H m (mD L) ∧ row.length ≤ 1000 ∧
  ∀ v' row' H', But l H H' → UrnAt H' l (n + 3) → Dp K H' v' (rD row') → Rch (fr L) row row' → Q v' H'
theorem ok_drawn (T : Tx K mg) : FnOk P w K mg base CX0 4 T.fLDrawnTurns T.fdLDrawnTurns ["_law_urn", "_law_flows_so", "_law_lets_so"] (spDrawn K) := by
  have G1 : FnOk P w K mg base CX0 3 T.fLTurns T.fdLTurns ["_law_flows_so", "_law_lets_so"] (spTurns K) := ok_turns T
  have G2 : FnOk P w K mg base CX0 3 T.fLTake T.fdLTake ["_law_urn", "_law_low_so"] (spTake K) := (ok_take T).mono (by decide)
  refine ok0 T.FLDrawnTurns scLDrawnTurns (fun vs H Q E h => ?_) (fun cdv A outer s H vs Q E hr h => ?_)
  · obtain ⟨l, v, m, n, row, L, rfl, _⟩ := h
    rfl
  · obtain ⟨l, v, m, n, row, L, rfl, hu, hn, hv, hm, hlen, k⟩ := h
    refine ⟨_, pss_cons (ps_for PassesOwn.never rfl (pi_range1 (by rfl) T.b_range (pa_cons pe_int pa_nil)) (pg_name (i := 3) scLDrawnTurns.nd rfl (Or.inl rfl))
        (pss_cons (ps_set (i := 4) scLDrawnTurns.nd rfl (Or.inl rfl) (pe_call G1 hr rfl T.gLTurns T.FLTurns.kp T.bLTurns .nil pass0 (pa_cons (pv 1) (pa_cons (pv 2) pa_nil))))
        (pss_one (ps_if (pt_cmpR (op_neD (Room.u64 hr)) (pv 4) (pe_lst pa_nil) (nomark _))
          (pss_one (ps_set (i := 1) scLDrawnTurns.nd rfl (Or.inl rfl) (pe_ix ix_list (pv 4) (pe_call G2 hr rfl T.gLTake T.FLTake.kp T.bLTake .nil pass0 (pa_cons (pv 0) (pa_cons (pe_callB call_len_seq (by rfl) T.b_len PySem.boot_len (pa_cons (pv 4) pa_nil)) pa_nil))) (fun _ _ => rfl)))) pss_nil))))
      (pss_one (ps_ret (pv 1))), ?_⟩
    refine ⟨3, rfl, by decide, by decide, ?_⟩
    refine for_it walk_range (fun i σ H' => ∃ v1 v3 v4 row', σ = [some (.ref l), some v1, some m, v3, v4] ∧ But l H H' ∧ UrnAt H' l (n + i) ∧ Dp K H' v1 (rD row') ∧ Rch (fr L) row row') ⟨v, none, none, row, rfl, But.refl _ _, hu, hv, .refl _⟩ (fun _ _ _ _ _ => trivial) ?_ ?_
    · rintro i x σ H1 H2 hi ⟨v1, v3, v4, row', rfl, b1, u1, hv1, hrch⟩ ⟨rfl, rfl⟩
      have hi3 : i < 3 := hi
      have hle := hrch.len
      refine ⟨_, rfl, _, rfl, v1, m, row', L, rfl, hv1, Dp.kpt (hu.kpt b1) _ _ (tupD_m L) hm, by omega, fun f H3 e3 hf hR => ?_⟩
      refine ⟨_, rfl, Nat.zero_le _, fun p hp => ?_⟩
      have ep := Same.new (o := .lst []) hp
      refine ⟨rsD (turns (fr L) row'), rsD [], (hR.same ep).dp, .lst (SqL.of upd_same) .nil, shaped_rs _, shaped_rs [], _, rfl, ite2 (fun h => ?_) (fun h => ?_)⟩
      · have hne := (eqv_rs_nil _).mp h
        have hR4 := hR.same ep
        have u4 := (u1.same e3).same ep
        have b4 := (b1.trans (But.of_same e3)).trans (But.of_same ep)
        generalize upd H3 p (.lst []) = H4 at hR4 u4 b4 ⊢
        obtain ⟨ts, hts, hdts⟩ := hR4
        have htl := hdts.len
        rw [List.length_map] at htl
        have hln := turns_len (c := fr L) row' row'.length
        have hpos : 0 < (turns (fr L) row').length := List.length_pos_iff.mpr hne
        have hln2 : (turns (fr L) row').length ≤ 2 * row'.length := hln
        refine ⟨_, rfl, _, rfl, _, rfl, f, ts, rfl, .inl (SqL.of hts), l, ts.length, n + i, rfl, u4, by omega, by omega, by omega, fun r H5 b5 u5 hr5 => ?_⟩
        have nfl : f ≠ l := fun z => by
          obtain ⟨_, _, _, q, _⟩ := u1.same e3
          obtain ⟨ys, hys, hdy⟩ := hR
          rw [z, q] at hys
          cases hys
          rw [← z] at q
          have := b1
          obtain ⟨_, _, _, q2, _⟩ := u1
          rw [← z, hf] at q2
          cases q2
        obtain ⟨row2, hrow2⟩ : ∃ row2, (turns (fr L) row')[r]? = some row2 := ⟨_, List.getElem?_eq_getElem (by omega)⟩
        obtain ⟨v2, hv2, hdv2⟩ := hdts.at (i := r) (d := rD row2) (by rw [List.getElem?_map, hrow2]; rfl)
        have hts5 := b5 f _ nfl hts
        refine ⟨f, ts, _, v2, rfl, rfl, SqL.of hts5, atI_nat hv2, v2, _, _, row2, rfl, b4.trans b5, u5, Dp.kpt (u4.kpt b5) _ _ (tupD_r _) hdv2, .tail hrch ?_⟩
        have hmem := List.mem_of_getElem? hrow2
        unfold turns turnsTo at hmem
        obtain ⟨k2, _, hk2⟩ := List.mem_flatMap.mp hmem
        exact turnsAt_tn hk2
      · have e4 := e3.trans ep
        exact ⟨v1, _, _, row', rfl, b1.trans (But.of_same e4), (u1.same e4).mono (by omega), Dp.same e4 _ _ hv1, hrch⟩
    · rintro σ H' ⟨v1, v3, v4, row', rfl, b1, u1, hv1, hrch⟩
      exact ⟨_, rfl, k v1 row' H' b1 u1 hv1 hrch⟩
end
end K26
end
section
set_option Elab.async false
set_option linter.all false
set_option maxRecDepth 100000
set_option maxHeartbeats 400000
/-! _law_reached -/
namespace K26
open PySem PySem.Spec PyProof.Rows L2
/-! all but what stands at two places -/
def But2 (s n : Addr) (H H' : Hp) : Prop := ∀ b o, b ≠ s → b ≠ n → H b = some o → H' b = some o
theorem But2.refl (s n : Addr) (H : Hp) : But2 s n H H := fun _ _ _ _ h => h
theorem But2.trans {s n : Addr} {H H1 H2 : Hp} (a : But2 s n H H1) (b : But2 s n H1 H2) : But2 s n H H2 := fun c o h1 h2 h => b c o h1 h2 (a c o h1 h2 h)
theorem But2.of_same {s n : Addr} {H H' : Hp} (e : Same H H') : But2 s n H H' := fun b o _ _ h => e b o h
theorem But2.left {s n : Addr} {H H' : Hp} (e : But s H H') : But2 s n H H' := fun b o h _ g => e b o h g
theorem But2.right {s n : Addr} {H H' : Hp} (e : But n H H') : But2 s n H H' := fun b o _ h g => e b o h g
theorem But2.to_same {s n : Addr} {H H' H0 : Hp} (b : But2 s n H H') (e : Same H0 H) (hs : H0 s = none) (hn : H0 n = none) : Same H0 H' := fun a o h => b a o (ne_of_none h hs) (ne_of_none h hn) (e a o h)
theorem Rd.lst_no {H : Hp} {u : Addr} {ys : List V} (h : H u = some (.lst ys)) (xs : List V) : ¬ Rd H u (.tup xs) := fun z => by
  rcases z with z | ⟨o, z⟩ <;> (rw [h] at z; cases z)
theorem KpT.of_but2 {s n : Addr} {H H' : Hp} (e : But2 s n H H') (hs : ∀ xs, ¬ Rd H s (.tup xs)) (hn : ∀ xs, ¬ Rd H n (.tup xs)) : KpT H H' := fun a xs h => by
  have h1 : a ≠ s := fun z => hs xs (z ▸ h)
  have h2 : a ≠ n := fun z => hn xs (z ▸ h)
  rcases h with h | ⟨o, h⟩
  · exact .inl (e _ _ h1 h2 h)
  · exact .inr ⟨o, e _ _ h1 h2 h⟩
def lenAt (i : Nat) (σ : L2.St) (H : Hp) : Nat := match σ[i]? with
  | some (some (V.ref a)) => match H a with
    | some (.lst xs) => xs.length
    | _ => 0
  | _ => 0
theorem lenAt_of {i : Nat} {σ : L2.St} {H : Hp} {a : Addr} {xs : List V} (h : σ[i]? = some (some (V.ref a))) (g : H a = some (.lst xs)) : lenAt i σ H = xs.length := by
  unfold lenAt
  rw [h]
  simp only
  rw [g]
def mu (σ : L2.St) (H : Hp) : Nat := 2 * (most - lenAt 2 σ H) + (if lenAt 3 σ H = 0 then 0 else 1)
section
variable {P : Program} {w : World} {K : PySem.W.Frag} {mg : Str → Option Value} {base : Heap}
theorem RowsAt.kpt {H H' : Hp} {l : Addr} {rs : List Rw} (h : RowsAt K H l rs) (k : KpT H H') (e : ∀ o, H l = some o → H' l = some o) : RowsAt K H' l rs := by
  obtain ⟨xs, h1, h2⟩ := h
  exact ⟨xs, e _ h1, DpAll.kpt k _ _ (tupDs_r rs) h2⟩
theorem SnAt.no_tup {H : Hp} {d : Addr} {ks : List NestedKey} (h : SnAt P w K H d ks) : ∀ xs, ¬ Rd H d (.tup xs) := by
  obtain ⟨xs, h1, _⟩ := h
  exact Rd.ext_no h1
theorem SnAt.ne_rows {H : Hp} {d l : Addr} {ks : List NestedKey} {rs : List Rw} (h : SnAt P w K H d ks) (g : RowsAt K H l rs) : l ≠ d := fun z => by
  obtain ⟨xs, h1, _⟩ := h
  obtain ⟨ys, g1, _⟩ := g
  rw [z, h1] at g1
  cases g1
theorem SnAt.same {H H' : Hp} {d : Addr} {ks : List NestedKey} (h : SnAt P w K H d ks) (e : Same H H') : SnAt P w K H' d ks := by
  obtain ⟨xs, h1, _⟩ := id h
  exact h.keep (by rw [h1]; exact e _ _ h1) (KpT.of_same e)
def spReached (K : PySem.W.Frag) : Sp := fun vs H Q _ => ∃ (v m : V) (row : Rw) (L : List (Int × Int)), vs = [v, m] ∧ Dp K H v (rD row) ∧ Dp K H m (mD L) ∧ Prop1 L ∧ row.length ≤ 4 ∧
  ∀ f H' found, Same H H' → H f = none → RowsAt K H' f found → found.Nodup → (∀ x, x ∈ found ↔ Rch (fr L) row x) → Q (.ref f) H'
theorem most_line : most < sizeLine := by rw [sizeLine_eq]; decide
theorem ok_reached (T : Tx K mg) : FnOk P w K mg base CX0 4 T.fLReached T.fdLReached ["_law_flows_so", "_law_lets_so"] (spReached K) := by
  have G : FnOk P w K mg base CX0 3 T.fLTurns T.fdLTurns ["_law_flows_so", "_law_lets_so"] (spTurns K) := ok_turns T
  refine ok0 T.FLReached scLReached (fun vs H Q E h => ?_) (fun cdv A outer s H vs Q E hr h => ?_)
  · obtain ⟨v, m, row, L, rfl, _⟩ := h
    rfl
  · obtain ⟨v, m, row, L, rfl, hv, hm, hL, hlen, k⟩ := h
    have C := fr_com hL
    refine ⟨_, pss_cons (ps_par (i := 2) (j := 3) (by rfl) scLReached.nd rfl rfl (by decide) rfl rfl (pa_cons (pe_lst (pa_cons (pv 0) pa_nil)) (pa_cons (pe_lst (pa_cons (pv 0) pa_nil)) pa_nil)) (by rfl))
      (pss_cons (ps_set (i := 4) scLReached.nd rfl (Or.inl rfl) (pe_sdisp (Room.u64 hr) (pv 0) pe_int))
      (pss_cons (ps_while PassesOwn.never (pt_cmpR (op_neD (Room.u64 hr)) (pv 3) (pe_lst pa_nil) (nomark _))
        (pss_cons (ps_set (i := 5) scLReached.nd rfl (Or.inl rfl) (pe_lst pa_nil))
        (pss_cons (ps_for PassesOwn.never rfl (pi_list (pv 3)) (pg_name (i := 6) scLReached.nd rfl (Or.inl rfl))
          (pss_one (ps_for PassesOwn.never rfl (pi_list (pe_call G hr rfl T.gLTurns T.FLTurns.kp T.bLTurns .nil pass0 (pa_cons (pv 6) (pa_cons (pv 1) pa_nil)))) (pg_name (i := 7) scLReached.nd rfl (Or.inl rfl))
            (pss_one (ps_if (pt_cmpR (op_notInS (Room.u64 hr)) (pv 7) (pv 4) (by rfl))
              (pss_cons (ps_sput (Room.u64 hr) (pv 4) (pv 7) pe_int)
              (pss_one (ps_expr (pe_bm PySem.F.plainAttrs_list PySem.F.slot_list_append PySem.F.type_list_append mt_append (pv 5) (pa_cons (pv 7) pa_nil))))) pss_nil)))))
        (pss_one (ps_par (i := 2) (j := 3) (by rfl) scLReached.nd rfl rfl (by decide) rfl rfl (pa_cons (pe_op op_cat (pv 2) (pv 5)) (pa_cons (pv 5) pa_nil)) (by rfl))))))
      (pss_one (ps_ret (pv 2))))), ?_⟩
    refine ⟨_, rfl, by show 1 ≤ sizeLine; decide, fun f hf => ⟨_, rfl, by show 1 ≤ sizeLine; decide, fun g hg => ⟨_, _, rfl, ?_⟩⟩⟩
    have ef := Same.new (o := .lst [v]) hf
    have eg := Same.new (o := .lst [v]) hg
    have e0 := ef.trans eg
    have hf0 : RowsAt K (upd (upd H f (.lst [v])) g (.lst [v])) f [row] := ⟨_, eg _ _ upd_same, .one (Dp.same e0 _ _ hv)⟩
    have hg0 : RowsAt K (upd (upd H f (.lst [v])) g (.lst [v])) g [row] := ⟨_, upd_same, .one (Dp.same e0 _ _ hv)⟩
    have hv0 := Dp.same e0 _ _ hv
    generalize upd (upd H f (.lst [v])) g (.lst [v]) = H0 at e0 hf0 hg0 hv0 ⊢
    refine fun d hd => ?_
    have hdH := free_same e0 hd
    have ed := Same.new (o := .dT []) hd
    obtain ⟨va, vx, rfl, _, _⟩ := hv.tup_inv
    refine ⟨_, rfl, upd_same, va, rowK row, _, rfl, by rw [rowK_data]; exact Dp.same ed _ _ hv0, rowK_depth row, fun H1 b1 k1 sn => ?_⟩
    have e1 : Same H0 H1 := fun a o h => b1 a o (ne_of_none h hd) (ed a o h)
    refine while_by (fun σ H' => ∃ f g s v5 v6 v7 found last, σ = [some (.ref va), some m, some (.ref f), some (.ref g), some (.ref s), v5, v6, v7] ∧ Same H H' ∧ RowsAt K H' f found ∧ RowsAt K H' g last ∧ SnAt P w K H' s (found.map rowK) ∧ H s = none ∧ H f = none ∧ Bf (fr L) row found last ∧ last.Nodup) mu
      ⟨f, g, d, none, none, none, [row], [row], rfl, e0.trans e1, hf0.same e1, hg0.same e1, sn, hdH, hf, Bf.start row, by simp⟩ ?_ ?_
    · rintro σ H2 ⟨f, g, s, v5, v6, v7, found, last, rfl, e2, hfd, hla, hsn, hsH, hfH, F, nd⟩
      refine ⟨_, rfl, Nat.zero_le _, fun p hp => ?_⟩
      have ep := Same.new (o := .lst []) hp
      refine ⟨rsD last, rsD [], (hla.same ep).dp, .lst (SqL.of upd_same) .nil, shaped_rs _, shaped_rs [], _, rfl, ite2 (fun h => ?_) (fun h => ?_)⟩
      · have hne := (eqv_rs_nil _).mp h
        have e3 := e2.trans ep
        refine ⟨Nat.zero_le _, fun nx hnx => ?_⟩
        have en := Same.new (o := .lst []) hnx
        have hnxH := free_same e3 hnx
        have hfd3 := (hfd.same ep).same en
        have hla3 := (hla.same ep).same en
        have hsn3 := (hsn.same ep).same en
        have e4 := e3.trans en
        have nfnx : f ≠ nx := fun z => by
          obtain ⟨ys, q, _⟩ := hfd.same ep
          rw [z, hnx] at q
          cases q
        have ngnx : g ≠ nx := fun z => by
          obtain ⟨ys, q, _⟩ := hla.same ep
          rw [z, hnx] at q
          cases q
        have nsnx : s ≠ nx := fun z => by
          obtain ⟨ys, q, _⟩ := hsn.same ep
          rw [z, hnx] at q
          cases q
        have hnx3 : (upd (upd H2 p (.lst [])) nx (.lst [])) nx = some (.lst []) := upd_same
        have hlf : lenAt 2 [some (V.ref va), some m, some (V.ref f), some (V.ref g), some (V.ref s), v5, v6, v7] H2 = found.length := by
          obtain ⟨ys, q, q2⟩ := hfd
          rw [lenAt_of (a := f) rfl q, q2.len, List.length_map]
        have hlg : lenAt 3 [some (V.ref va), some m, some (V.ref f), some (V.ref g), some (V.ref s), v5, v6, v7] H2 = last.length := by
          obtain ⟨ys, q, q2⟩ := hla
          rw [lenAt_of (a := g) rfl q, q2.len, List.length_map]
        generalize upd (upd H2 p (.lst [])) nx (.lst []) = H3 at hfd3 hla3 hsn3 e4 hnx3 ⊢
        obtain ⟨xs, hxg, hdg⟩ := id hla3
        have hxl : xs.length = last.length := by rw [hdg.len, List.length_map]
        have nfs := hsn3.ne_rows hfd3
        have ngs := hsn3.ne_rows hla3
        refine ⟨_, rfl, g, rfl, ⟨xs, SqL.of hxg⟩, ?_⟩
        refine for_it (walk_list (K := K) (a := g) (xs := xs)) (fun i σ H' => ∃ v6 v7 next, σ = [some (.ref va), some m, some (.ref f), some (.ref g), some (.ref s), some (.ref nx), v6, v7] ∧ But2 s nx H3 H' ∧ KpT H3 H' ∧ RowsAt K H' nx next ∧ SnAt P w K H' s ((found ++ next).map rowK) ∧ Bi (fr L) row found last next i)
          ⟨v6, v7, [], rfl, But2.refl _ _ _, KpT.refl _, ⟨[], hnx3, .nil⟩, by rw [List.append_nil]; exact hsn3, F.bi⟩ (fun i σ H' _ ⟨_, _, _, _, b, _⟩ => SqL.of (b _ _ ngs ngnx hxg)) ?_ ?_
        · rintro i x σ H4 H5 hi ⟨v6, v7, next, rfl, b4, k4, hnx4, hsn4, B⟩ ⟨rfl, hx⟩
          obtain ⟨d1, hd1, hdx⟩ := hdg.get hx
          rw [List.getElem?_map] at hd1
          obtain ⟨r1, hr1, er⟩ := Option.map_eq_some_iff.mp hd1
          subst er
          have hr1m := List.mem_of_getElem? hr1
          have hr1l := (F.rc r1 (F.sub _ hr1m)).len
          have hm5 := Dp.same (b4.to_same e4 hsH hnxH) _ _ hm
          refine ⟨_, rfl, _, rfl, x, m, r1, L, rfl, Dp.kpt k4 _ _ (tupD_r r1) hdx, hm5, by omega, fun t H6 e6 ht hRt => ⟨t, rfl, hRt.seq, ?_⟩⟩
          obtain ⟨ts, hts, hdts⟩ := id hRt
          have hnx6 := hnx4.same e6
          have hsn6 := hsn4.same e6
          have ntnx : t ≠ nx := fun z => by
            obtain ⟨ys, q, _⟩ := hnx4
            rw [← z, ht] at q
            cases q
          have nts : t ≠ s := fun z => by
            obtain ⟨ys, q, _⟩ := hsn4
            rw [← z, ht] at q
            cases q
          have htl : ts.length = (turns (fr L) r1).length := by rw [hdts.len, List.length_map]
          refine for_it (walk_list (K := K) (a := t) (xs := ts)) (fun j σ H' => ∃ v7 next, σ = [some (.ref va), some m, some (.ref f), some (.ref g), some (.ref s), some (.ref nx), some x, v7] ∧ But2 s nx H6 H' ∧ KpT H6 H' ∧ RowsAt K H' nx next ∧ SnAt P w K H' s ((found ++ next).map rowK) ∧ Bj (fr L) row found last next i r1 j)
            ⟨v7, next, rfl, But2.refl _ _ _, KpT.refl _, hnx6, hsn6, B.bj r1⟩ (fun j σ H' _ ⟨_, _, _, b, _⟩ => SqL.of (b _ _ nts ntnx hts)) ?_ ?_
          · rintro j y σ H7 H8 hj ⟨v7, next, rfl, b7, k7, hnx7, hsn7, B7⟩ ⟨rfl, hy⟩
            obtain ⟨d2, hd2, hdy⟩ := hdts.get hy
            rw [List.getElem?_map] at hd2
            obtain ⟨r2, hr2, er⟩ := Option.map_eq_some_iff.mp hd2
            subst er
            have hdy7 := Dp.kpt k7 _ _ (tupD_r r2) hdy
            obtain ⟨ya, ys, rfl, _, _⟩ := hdy7.tup_inv
            have hkey := hdy7
            rw [← rowK_data] at hkey
            refine ⟨_, rfl, _, rfl, ya, s, _, rowK r2, rfl, rfl, hsn7, hkey, rowK_depth r2, _, rfl, ite2 (fun q => ?_) (fun q => ?_)⟩
            · have hnm : rowK r2 ∉ (found ++ next).map rowK := fun z => by
                rw [decide_eq_true z] at q
                cases q
              have hnm2 : r2 ∉ found ++ next := fun z => hnm (mem_rowK.mpr z)
              have hmo := Bi.most F B7.b hlen
              refine ⟨_, rfl, _, rfl, ya, s, rowK r2, _, rfl, rfl, hsn7, hkey, rowK_depth r2, hnm, by rw [List.length_map]; exact Nat.lt_of_le_of_lt hmo most_line, fun H9 b9 k9 sn9 => ?_⟩
              obtain ⟨ns, hns, hdns⟩ := hnx7
              have hnsl := hdns.len
              rw [List.length_map] at hnsl
              have hns9 := b9 nx _ (Ne.symm nsnx) hns
              have k10 : KpT H9 (upd H9 nx (.lst (ns ++ [.ref ya]))) := KpT.upd_lst hns9
              refine ⟨_, rfl, .inl ⟨rfl, _, SqL.of hns9⟩, _, rfl, nx, ns, .ref ya, rfl, rfl, hns9, ?_, _, next ++ [r2], rfl, (b7.trans (But2.left b9)).trans (But2.right But.put), (k7.trans k9).trans k10, ⟨_, upd_same, ?_⟩, ?_, Bj.new C F B7 hr1m hr2 hnm2⟩
              · rw [List.length_append] at hmo
                exact Nat.lt_of_le_of_lt (show ns.length ≤ most by omega) most_line
              · rw [List.map_append]
                exact DpAll.app (DpAll.kpt (k9.trans k10) _ _ (tupDs_r _) hdns) (DpAll.one (Dp.kpt (k9.trans k10) _ _ (tupD_r _) hdy7))
              · have e : (found ++ (next ++ [r2])).map rowK = (found ++ next).map rowK ++ [rowK r2] := by simp
                rw [e]
                exact sn9.keep (upd_ne nsnx) k10
            · have hnm : rowK r2 ∈ (found ++ next).map rowK := Decidable.byContradiction fun z => q (by rw [decide_eq_false z]; rfl)
              exact ⟨_, next, rfl, b7, k7, hnx7, hsn7, Bj.seen B7 hr2 (mem_rowK.mp hnm)⟩
          · rintro σ H7 ⟨v7, next, rfl, b7, k7, hnx7, hsn7, B7⟩
            rw [htl] at B7
            exact ⟨_, _, next, rfl, (b4.trans (But2.of_same e6)).trans b7, (k4.trans (KpT.of_same e6)).trans k7, hnx7, hsn7, B7.done hr1⟩
        · rintro σ H4 ⟨v6, v7, next, rfl, b4, k4, hnx4, hsn4, B⟩
          rw [hxl] at B
          have F2 := Bi.done F B
          have hfd4 := hfd3.kpt k4 fun o ho => b4 _ _ nfs nfnx ho
          obtain ⟨fs, hfs, hdfs⟩ := id hfd4
          obtain ⟨ns, hns, hdns⟩ := id hnx4
          have hfl : fs.length = found.length := by rw [hdfs.len, List.length_map]
          have hnl : ns.length = next.length := by rw [hdns.len, List.length_map]
          have hmo := Bi.most F B hlen
          rw [List.length_append] at hmo
          refine ⟨_, rfl, _, rfl, f, nx, fs, ns, rfl, rfl, hfs, hns, Nat.le_of_lt (Nat.lt_of_le_of_lt (by omega) most_line), fun q hq => ⟨_, rfl, _, _, rfl, ?_⟩⟩
          have eq := Same.new (o := .lst (fs ++ ns)) hq
          have e5 := b4.to_same e4 hsH hnxH
          have hqfd : RowsAt K (upd H4 q (.lst (fs ++ ns))) q (found ++ next) := ⟨_, upd_same, by rw [List.map_append]; exact DpAll.same eq _ _ (hdfs.app hdns)⟩
          refine ⟨⟨q, nx, s, _, _, _, found ++ next, next, rfl, e5.trans eq, hqfd, hnx4.same eq, hsn4.same eq, hsH, free_same e5 hq, F2, (List.nodup_append.mp B.nd).2.1⟩, ?_⟩
          have h1 : lenAt 2 [some (V.ref va), some m, some (V.ref q), some (V.ref nx), some (V.ref s), some (V.ref nx), v6, v7] (upd H4 q (.lst (fs ++ ns))) = found.length + next.length := by
            rw [lenAt_of (a := q) rfl upd_same, List.length_append, hfl, hnl]
          have h2 : lenAt 3 [some (V.ref va), some m, some (V.ref q), some (V.ref nx), some (V.ref s), some (V.ref nx), v6, v7] (upd H4 q (.lst (fs ++ ns))) = next.length := by
            rw [lenAt_of (a := nx) rfl (eq _ _ hns), hnl]
          show mu [some (V.ref va), some m, some (V.ref q), some (V.ref nx), some (V.ref s), some (V.ref nx), v6, v7] (upd H4 q (.lst (fs ++ ns))) < _
          unfold mu
          rw [h1, h2, hlf, hlg]
          have hlast : last.length ≠ 0 := fun z => hne (List.length_eq_zero_iff.mp z)
          rw [if_neg hlast]
          split <;> omega
      · have hz : last = [] := Decidable.byContradiction fun z => h ((eqv_rs_nil _).mpr z)
        subst hz
        exact ⟨_, rfl, k f _ found (e2.trans ep) hfH (hfd.same ep) F.nd (F.all C)⟩
    · rintro σ H' Q1 Q2 hq ⟨v, e, z, y⟩
      refine ⟨v, e, z, fun p hp => ?_⟩
      obtain ⟨d1, d2, a1, a2, a3, a4, b, e5, q⟩ := y p hp
      exact ⟨d1, d2, a1, a2, a3, a4, b, e5, hq _ _ q⟩
end
end K26
end
section
set_option Elab.async false
set_option linter.all false
set_option maxRecDepth 100000
set_option maxHeartbeats 400000
/-! _law_shortest -/
namespace K26
open PySem PySem.Spec PyProof.Rows L2
theorem fm_filter (N : Nat) : ∀ l : List Rw, (l.map fun r => if r.length = N then some (rD r) else none).filterMap id = (l.filter fun r => decide (r.length = N)).map rD
  | [] => rfl
  | r :: l => by
    rw [List.map_cons]
    by_cases h : r.length = N
    · rw [if_pos h, List.filterMap_cons_some (by rfl), fm_filter N l, List.filter_cons_of_pos (by simp [h]), List.map_cons]
    · rw [if_neg h, List.filterMap_cons_none (by rfl), fm_filter N l, List.filter_cons_of_neg (by simp [h])]
theorem depth_int1 : ∀ ns : List Int, PyData.depthAll (ns.map .int) = 0
  | [] => by simp [PyData.depthAll]
  | n :: ns => by simp [PyData.depthAll, PyData.depth, depth_int1 ns]
theorem depth_k (r : Rw) : (kD r).depth ≤ 4 := by
  have h1 := depth_r r
  have h2 := depth_int1 (r.map Prod.fst)
  simp only [kD, partsD, PyData.depth, PyData.depthAll]
  omega
theorem tupDs_int : ∀ ns : List Int, tupDs (ns.map .int) = true
  | [] => by simp [tupDs]
  | n :: ns => by
    rw [List.map_cons, tupDs, tupDs_int ns]
    simp [tupD]
theorem tupD_k (r : Rw) : tupD (kD r) = true := by
  have h1 : tupD (partsD r) = true := by
    unfold partsD
    rw [tupD]
    exact tupDs_int _
  simp [kD, tupD, tupDs, h1, tupD_r]
section
variable {P : Program} {w : World} {K : PySem.W.Frag} {mg : Str → Option Value} {base : Heap}
def rLn (K : PySem.W.Frag) : List V → Hp → VK → Prop := fun xs H Q => ∃ p ys, xs = [.ref p] ∧ (SqL K H p ys ∨ SqT K H p ys) ∧ Q (.int ys.length) H
def rTup (K : PySem.W.Frag) : List V → Hp → VK → Prop := fun xs H Q => ∃ p ys, xs = [.ref p] ∧ ((SqL K H p ys ∧ ∀ l, H l = none → Q (.ref l) (upd H l (.tup ys))) ∨ (SqT K H p ys ∧ Q (.ref p) H))
def scSort : Scope := { kind := .function, names := [(Str.ofString ".0", .local), (Str.ofString "_law_own", .local), (Str.ofString "tuple", .globalImplicit)], isGenerator := false, isCoroutine := false }
def spShortest (K : PySem.W.Frag) : Sp := fun vs H Q _ => ∃ (v m : V) (row : Rw) (L : List (Int × Int)), vs = [v, m] ∧ Dp K H v (rD row) ∧ Dp K H m (mD L) ∧ Prop1 L ∧ row.length ≤ 4 ∧
  ∀ p H' S, Same H H' → H p = none → RowsAt K H' p S → S.Nodup → (∀ x, x ∈ S ↔ Rch (fr L) (nf (fr L) row) x) → (∃ t, S = nf (fr L) row :: t) → Q (.ref p) H'
theorem ok_shortest (T : Tx K mg) : FnOk P w K mg base CX0 5 T.fLShortest T.fdLShortest ["_law_flows_so", "_law_lets_so"] (spShortest K) := by
  have G : FnOk P w K mg base CX0 4 T.fLReached T.fdLReached ["_law_flows_so", "_law_lets_so"] (spReached K) := ok_reached T
  refine ok0 T.FLShortest scLShortest (fun vs H Q E h => ?_) (fun cdv A outer s H vs Q E hr h => ?_)
  · obtain ⟨v, m, row, L, rfl, _⟩ := h
    rfl
  · obtain ⟨v, m, row, L, rfl, hv, hm, hL, hlen, k⟩ := h
    have C := fr_com hL
    refine ⟨_, pss_cons (ps_set (i := 2) scLShortest.nd rfl (Or.inl rfl) (pe_call G hr rfl T.gLReached T.FLReached.kp T.bLReached .nil pass0 (pa_cons (pv 0) (pa_cons (pv 1) pa_nil))))
      (pss_cons (ps_set (i := 3) scLShortest.nd rfl (Or.inr rfl) (pe_callB (cr_min rfl) (by rfl) T.b_min PyProof.Rows.boot_min (pa_cons (pe_lc (own := [("_law_own", 5)]) (g := gName 5) (tt := tYes) (by rfl) scLShortest.nd (pi_list (pv 2)) (blkOk_by (N := nLShortest) (sc := defScope sLShortest) (by decide +kernel))
        (fun _ _ _ _ _ => pg_name (i := 5) scLShortest.nd rfl (Or.inl rfl)) (fun _ _ _ _ _ => pts_nil)
        (fun _ _ _ _ _ => pe_callB (r := rLn K) call_len_seq (by rfl) T.b_len PySem.boot_len (pa_cons (pv 5) pa_nil))) pa_nil)))
      (pss_cons (ps_setLc (i := 4) (own := [("_law_own", 5)]) (g := gName 5) (by rfl) scLShortest.nd rfl rfl (sw_true rfl rfl rfl rfl) (pi_list (pv 2)) (blkOk_by (N := nLShortest) (sc := defScope sLShortest) (by decide +kernel))
        (fun _ _ _ _ _ => pg_name (i := 5) scLShortest.nd rfl (Or.inl rfl)) (fun _ _ _ _ _ => pts_one (pt_cmpR op_eq (pe_callB (r := rLn K) call_len_seq (by rfl) T.b_len PySem.boot_len (pa_cons (pv 5) pa_nil)) (pv 3) (nomark _)))
        (fun _ _ _ _ _ => pv 5))
      (pss_one (ps_ret (pe_lc (own := [("_law_own", 5)]) (g := gName 5) (tt := tYes) (by rfl) scLShortest.nd (pi_list (pe_callB (cr_sortedD (Room.u64 hr)) (by rfl) T.b_sorted PyProof.Rows.boot_sorted (pa_cons
          (pe_lc (own := [("_law_own", 5)]) (g := gName 5) (tt := tYes) (by rfl) scLShortest.nd (pi_list (pv 4)) (blkOk_by (N := nLShortest) (sc := defScope sLShortest) (by decide +kernel))
            (fun _ _ _ _ _ => pg_name (i := 5) scLShortest.nd rfl (Or.inl rfl)) (fun _ _ _ _ _ => pts_nil)
            (fun _ _ _ _ _ => pe_tup (pa_cons (pe_callTy (r := rTup K) call_tuple_of (by rfl) T.b_tuple PyProof.Rows.boot_tuple (pa_cons
              (pe_lc (wi := iTup K (tVar 5)) (own := [("_law_far", 6)]) (g := gName 6) (tt := tYes) (by rfl) scLShortest.nd (pi_tup (pv 5)) (blkOk_by (N := nLShortest) (sc := scSort) (by decide +kernel))
                (fun _ _ _ _ _ => pg_name (i := 6) scLShortest.nd rfl (Or.inl rfl)) (fun _ _ _ _ _ => pts_nil)
                (fun _ _ _ _ _ => pe_ix (r := rIxT K) ix_tup (pv 6) pe_int (fun _ _ => rfl))) pa_nil)) (pa_cons (pv 5) pa_nil)))) pa_nil)))
        (blkOk_by (N := nLShortest) (sc := defScope sLShortest) (by decide +kernel))
        (fun _ _ _ _ _ => pg_name (i := 5) scLShortest.nd rfl (Or.inl rfl)) (fun _ _ _ _ _ => pts_nil)
        (fun _ _ _ _ _ => pe_ix (r := rIxT K) ix_tup (pv 5) pe_int (fun _ _ => rfl))))))), ?_⟩
    refine ⟨_, rfl, _, rfl, v, m, row, L, rfl, hv, hm, hL, hlen, fun f H1 found e1 hf hR hnd hall => ?_⟩
    obtain ⟨xs, hxf, hdx⟩ := hR
    have hxl : xs.length = found.length := by rw [hdx.len, List.length_map]
    have hmo : found.length ≤ most := rch_most hlen hnd fun s hs => (hall s).mp hs
    have hml := most_line
    have hnf : nf (fr L) row ∈ found := (hall _).mpr (nf_rch C row)
    refine ⟨_, rfl, f, rfl, ⟨xs, SqL.of hxf⟩, fun D hD => ?_⟩
    refine lc_pure (K := K) (walk_list (K := K) (a := f) (xs := xs)) (found.map fun r => some (.int ((r.length : Nat) : Int))) (by rw [List.length_map, hxl]) (by omega) hD (fun H' e => e.seq (SqL.of hxf)) YAt.same (fun i x H2 H3 o ho e2 yy acc R Z hR hZ => ?_) fun H2 acc e2 hacc hac => ?_
    · obtain ⟨rfl, hx⟩ := yy
      obtain ⟨d1, hd1, hdx1⟩ := hdx.get hx
      rw [List.getElem?_map] at hd1 ho
      obtain ⟨r1, hr1, er⟩ := Option.map_eq_some_iff.mp hd1
      subst er
      rw [hr1] at ho
      have eo : o = some (.int ((r1.length : Nat) : Int)) := (Option.some.inj ho).symm
      obtain ⟨a, ys, rfl, ha, hya⟩ := (Dp.same e2 _ _ hdx1).tup_inv
      have hyl : ys.length = r1.length := by rw [hya.len, List.length_map]
      refine ⟨rfl, _, rfl, a, ys, rfl, .inr ha, hR _ _ _ eo (Same.refl _) fun H' _ => ?_⟩
      rw [hyl]
      exact .int _
    rw [filterMap_some] at hac
    have hac1 := dpAll_ints (ns := found.map fun r => ((r.length : Nat) : Int)) (by rw [List.map_map]; exact hac H2 (But.refl _ _))
    have hpos : 0 < found.length := List.length_pos_iff.mpr fun z => by rw [z] at hnf; cases hnf
    refine ⟨D, _, rfl, SqL.of (by rw [hacc, hac1]), by rw [List.length_map]; exact hpos, fun mn hmn hle => ?_⟩
    have hN : mn = (((nf (fr L) row).length : Nat) : Int) := by
      obtain ⟨r1, hr1, rfl⟩ := List.mem_map.mp hmn
      have h1 := hle _ (List.mem_map.mpr ⟨_, hnf, rfl⟩)
      have h2 := nf_least_len C ((hall r1).mp hr1)
      omega
    subst hN
    have hxf2 := e2 _ _ hxf
    have hdx2 := DpAll.same e2 _ _ hdx
    refine ⟨_, rfl, f, rfl, ⟨xs, SqL.of hxf2⟩, fun D2 hD2 => ?_⟩
    refine lc_pure (K := K) (walk_list (K := K) (a := f) (xs := xs)) (found.map fun r => if r.length = (nf (fr L) row).length then some (rD r) else none) (by rw [List.length_map, hxl]) (by omega) hD2 (fun H' e => e.seq (SqL.of hxf2)) YAt.same (fun i x H3 H4 o ho e3 yy acc R Z hR hZ => ?_) fun H3 acc2 e3 hacc2 hac2 => ?_
    · obtain ⟨rfl, hx⟩ := yy
      obtain ⟨d1, hd1, hdx1⟩ := hdx2.get hx
      rw [List.getElem?_map] at hd1 ho
      obtain ⟨r1, hr1, er⟩ := Option.map_eq_some_iff.mp hd1
      subst er
      rw [hr1] at ho
      have eo : o = if r1.length = (nf (fr L) row).length then some (rD r1) else none := (Option.some.inj ho).symm
      have hdx3 := Dp.same e3 _ _ hdx1
      obtain ⟨a, ys, rfl, ha, hya⟩ := hdx3.tup_inv
      have hyl : ys.length = r1.length := by rw [hya.len, List.length_map]
      refine ⟨rfl, _, rfl, a, ys, rfl, .inr ha, _, rfl, rfl, _, rfl, ite2 (fun h => ?_) (fun h => ?_)⟩
      · have hl1 : r1.length = (nf (fr L) row).length := by
          have := V.int.inj (of_decide_eq_true h)
          omega
        rw [if_pos hl1] at eo
        obtain ⟨acc, hacc⟩ := acc
        exact ⟨_, rfl, hR _ _ _ eo (Same.refl _) (Rob.tup hdx3 (tupD_r r1) hacc)⟩
      · have hl1 : ¬ r1.length = (nf (fr L) row).length := fun z => h (decide_eq_true (congrArg V.int (by omega)))
        rw [if_neg hl1] at eo
        exact hZ eo _ (Same.refl _)
    rw [fm_filter] at hac2
    obtain ⟨short, hshort⟩ : ∃ short, short = found.filter fun r => decide (r.length = (nf (fr L) row).length) := ⟨_, rfl⟩
    rw [← hshort] at hac2
    have hds := hac2 H3 (But.refl _ _)
    have hsm : ∀ x, x ∈ short ↔ Rch (fr L) (nf (fr L) row) x := fun x => by
      rw [hshort, List.mem_filter, hall, decide_eq_true_iff]
      exact short_rch C
    have hsnd : short.Nodup := by rw [hshort]; exact hnd.filter _
    have hsl : short.length ≤ most := Nat.le_trans (by rw [hshort]; exact List.length_filter_le _ _) hmo
    have hal : acc2.length = short.length := by rw [hds.len, List.length_map]
    refine ⟨_, rfl, D2, rfl, ⟨acc2, SqL.of hacc2⟩, fun D3 hD3 => ?_⟩
    refine lc_pure (K := K) (walk_list (K := K) (a := D2) (xs := acc2)) (short.map fun r => some (kD r)) (by rw [List.length_map, hal]) (by omega) hD3 (fun H' e => e.seq (SqL.of hacc2)) YAt.same (fun i x H4 H5 o ho e4 yy acc R Z hR hZ => ?_) fun H4 acc3 e4 hacc3 hac3 => ?_
    · obtain ⟨rfl, hx⟩ := yy
      obtain ⟨d1, hd1, hdx1⟩ := hds.get hx
      rw [List.getElem?_map] at hd1 ho
      obtain ⟨r1, hr1, er⟩ := Option.map_eq_some_iff.mp hd1
      subst er
      rw [hr1] at ho
      have eo : o = some (kD r1) := (Option.some.inj ho).symm
      have hr1l : r1.length ≤ 4 := by
        have h1 := (hall r1).mp (by
          have := List.mem_of_getElem? hr1
          rw [hshort] at this
          exact (List.mem_filter.mp this).1)
        have := h1.len
        omega
      have hdx4 := Dp.same e4 _ _ hdx1
      obtain ⟨a, ys, rfl, ha, hya⟩ := hdx4.tup_inv
      have hyl : ys.length = r1.length := by rw [hya.len, List.length_map]
      obtain ⟨acc, hacc⟩ := acc
      refine ⟨rfl, _, rfl, a, rfl, ⟨ys, ha⟩, fun D5 hD5 => ?_⟩
      refine lc_pure (K := K) (walk_tup (K := K) (a := a) (xs := ys)) (r1.map fun z => some (.int z.1)) (by rw [List.length_map, hyl]) (le_line (by omega)) hD5 (fun H' e => (KpT.of_same e).seq ha) YAt.same (fun j z H6 H7 o2 ho2 e6 yy2 acc6 R6 Z6 hR6 hZ6 => ?_) fun H6 acc6 e6 hacc6 hac6 => ?_
      · obtain ⟨rfl, hz⟩ := yy2
        obtain ⟨d2, hd2, hdz⟩ := hya.get hz
        rw [List.getElem?_map] at hd2 ho2
        obtain ⟨y2, hy2, ey⟩ := Option.map_eq_some_iff.mp hd2
        subst ey
        rw [hy2] at ho2
        have eo2 : o2 = some (.int y2.1) := (Option.some.inj ho2).symm
        obtain ⟨b, u, rfl, hb, hu⟩ := pD_inv (Dp.same e6 _ _ hdz)
        exact ⟨rfl, _, rfl, b, _, _, _, rfl, rfl, hb, at0, hR6 _ _ _ eo2 (Same.refl _) fun H' _ => .int _⟩
      · rw [filterMap_some] at hac6
        refine ⟨D5, acc6, rfl, .inl ⟨SqL.of hacc6, fun q hq => ⟨_, rfl, by show 2 ≤ sizeLine; decide, fun p hp => ?_⟩⟩⟩
        have eq := Same.new (o := .tup acc6) hq
        have ep := Same.new (o := .tup [.ref q, V.ref a]) hp
        have hall6 := hac6 H6 (But.refl _ _)
        refine hR _ _ _ eo ((e6.trans eq).trans ep) (Rob.tup ?_ (tupD_k r1) (ep _ _ (eq _ _ (e6 _ _ hacc))))
        refine .tup (SqT.of upd_same) (.two (Dp.same ep _ _ (.tup (SqT.of upd_same) (DpAll.same eq _ _ ?_))) (Dp.same ((e6.trans eq).trans ep) _ _ hdx4))
        rw [List.map_map]
        exact hall6
    rw [filterMap_some] at hac3
    refine ⟨D3, acc3, short.map kD, rfl, SqL.of hacc3, hac3 H4 (But.refl _ _), ?_, .inl (.inl ?_), ?_, fun ys p hys hp => ?_⟩
    · intro d hd d' hd'
      obtain ⟨r1, _, rfl⟩ := List.mem_map.mp hd
      obtain ⟨r2, _, rfl⟩ := List.mem_map.mp hd'
      exact alike_k r1 r2
    · intro d hd
      obtain ⟨r1, _, rfl⟩ := List.mem_map.mp hd
      exact ⟨_, _, rfl⟩
    · intro d hd
      obtain ⟨r1, _, rfl⟩ := List.mem_map.mp hd
      have := depth_k r1
      omega
    rw [← srt_map] at hys
    have hp4 := srt_perm kD short
    have hsl2 : (srt kD short).length ≤ most := by rw [hp4.length_eq]; exact hsl
    have hyl : ys.length = (srt kD short).length := by rw [hys.len, List.length_map]
    have ep := Same.new (o := .lst ys) hp
    have hys5 := DpAll.same ep _ _ hys
    have hyp : (upd H4 p (.lst ys)) p = some (.lst ys) := upd_same
    have e5 := ((e1.trans e2).trans e3).trans (e4.trans ep)
    generalize upd H4 p (.lst ys) = H5 at hys5 hyp e5 ⊢
    refine ⟨p, rfl, ⟨ys, SqL.of hyp⟩, fun D4 hD4 => ?_⟩
    refine lc_pure (K := K) (walk_list (K := K) (a := p) (xs := ys)) ((srt kD short).map fun r => some (rD r)) (by rw [List.length_map, hyl]) (by omega) hD4 (fun H' e => e.seq (SqL.of hyp)) YAt.same (fun i x H6 H7 o ho e6 yy acc R Z hR hZ => ?_) fun H6 acc6 e6 hacc6 hac6 => ?_
    · obtain ⟨rfl, hx⟩ := yy
      obtain ⟨d1, hd1, hdx1⟩ := hys5.get hx
      rw [List.getElem?_map] at hd1 ho
      obtain ⟨r1, hr1, er⟩ := Option.map_eq_some_iff.mp hd1
      subst er
      rw [hr1] at ho
      have eo : o = some (rD r1) := (Option.some.inj ho).symm
      obtain ⟨a, zs, rfl, ha, hza⟩ := (Dp.same e6 _ _ hdx1).tup_inv
      obtain ⟨z1, z2, rfl, hz1, hz2⟩ := hza.two_inv
      obtain ⟨acc, hacc⟩ := acc
      exact ⟨rfl, _, rfl, a, _, _, _, rfl, rfl, ha, at1, hR _ _ _ eo (Same.refl _) (Rob.tup hz2 (tupD_r r1) hacc)⟩
    · rw [filterMap_some] at hac6
      have hn : nf (fr L) row ∈ short := (hsm _).mpr (.refl _)
      refine k D4 H6 (srt kD short) (e5.trans e6) (free_same e5 hD4) ⟨acc6, hacc6, hac6 H6 (But.refl _ _)⟩ (hp4.symm.nodup hsnd) (fun x => by rw [hp4.mem_iff]; exact hsm x) (srt_head hn (fun s hs => ?_) fun s hs e => ?_)
      · have h := (short_rch C).mpr ((hsm s).mp hs)
        exact nf_least C h.1 h.2
      · have h := (short_rch C).mpr ((hsm s).mp hs)
        exact nf_only C h.1 h.2 e
end
end K26
end
section
set_option Elab.async false
set_option linter.all false
set_option maxRecDepth 100000
set_option maxHeartbeats 400000
/-! _law_case_right -/
namespace K26
open PySem PySem.Spec PyProof.Rows L2
/-! rows as lists -/
def lpD (x : Lt) : PyData := .list [.int x.1, .list [.int (fq x.2).1, .int (fq x.2).2]]
def lrD (r : Rw) : PyData := .list (r.map lpD)
def lmD (L : List (Int × Int)) : PyData := .list (L.map fun p => .list [.int p.1, .int p.2])
theorem tupd_lp (x : Lt) : tupd (lpD x) = pD x := by simp [lpD, tupd, tupds, pD, fD]
theorem tupd_lr (r : Rw) : tupd (lrD r) = rD r := by
  unfold lrD rD
  rw [tupd, tupds_map, List.map_map]
  exact congrArg _ (List.map_congr_left fun x _ => tupd_lp x)
theorem tupd_lm (L : List (Int × Int)) : tupd (lmD L) = mD L := by
  unfold lmD mD
  rw [tupd, tupds_map, List.map_map]
  exact congrArg _ (List.map_congr_left fun x _ => by simp [tupd, tupds, pairI])
theorem depth_lp : ∀ r : Rw, PyData.depthAll (r.map lpD) ≤ 2
  | [] => by simp [PyData.depthAll]
  | x :: r => by
    have := depth_lp r
    simp only [List.map_cons, PyData.depthAll, lpD, PyData.depth]
    omega
theorem depth_lm : ∀ r : List (Int × Int), PyData.depthAll (r.map fun p => PyData.list [.int p.1, .int p.2]) ≤ 1
  | [] => by simp [PyData.depthAll]
  | x :: r => by
    have := depth_lm r
    simp only [List.map_cons, PyData.depthAll, PyData.depth]
    omega
section
variable {K : PySem.W.Frag} {H : Hp} {v : V}
theorem RowIn.of_l {row : Rw} (h : Dp K H v (lrD row)) (hl : row.length ≤ 100) : RowIn K H v row := by
  refine ⟨_, h, tupd_lr row, ?_, okD_lst_of (by rw [List.length_map]; omega) fun d hd => ?_, hl⟩
  · have := depth_lp row
    unfold lrD
    rw [PyData.depth]
    omega
  · obtain ⟨x, _, rfl⟩ := List.mem_map.mp hd
    simp [lpD, okD, okDs]
theorem MeetIn.of_l {L : List (Int × Int)} (h : Dp K H v (lmD L)) (hl : L.length ≤ 100) (hp : Prop1 L) : MeetIn K H v L := by
  refine ⟨_, h, tupd_lm L, ?_, okD_lst_of (by rw [List.length_map]; omega) fun d hd => ?_, hp⟩
  · have := depth_lm L
    unfold lmD
    rw [PyData.depth]
    omega
  · obtain ⟨x, _, rfl⟩ := List.mem_map.mp hd
    simp [okD, okDs]
end
def rLst (K : PySem.W.Frag) : List V → Hp → VK → Prop := fun xs H Q => ∃ p ys, xs = [.ref p] ∧ (SqL K H p ys ∨ SqT K H p ys) ∧ ∀ l, H l = none → Q (.ref l) (upd H l (.lst ys))
theorem depth_srt (S : List Rw) : PyData.depth (rsD S) ≤ 4 := by
  have := depth_rs S
  unfold rsD
  rw [PyData.depth]
  omega
theorem reach_len {c : Int → Int → Bool} (C : Com c) {n x row : Rw} (hn : n = nf c row) (h : Rch c n x) : x.length = n.length := by
  subst hn
  exact ((short_rch C).mpr h).2
/-- the rows of one length, sorted as data -/
theorem sortable_rows {n : Nat} {S : List Rw} (hnd : S.Nodup) (h : ∀ x ∈ S, x.length = n) : PySem.W.Sortable (S.map rD) ∨ (S.map rD).length ≤ 1 := by
  cases n with
  | zero =>
    right
    rw [List.length_map]
    have h2 : ∀ x ∈ S, x ∈ [([] : Rw)] := fun x hx => by
      rw [List.length_eq_zero_iff.mp (h x hx)]
      simp
    exact nodup_le hnd h2
  | succ n =>
    left
    left
    intro d hd
    obtain ⟨x, hx, rfl⟩ := List.mem_map.mp hd
    have := h x hx
    cases x with
    | nil => simp at this
    | cons y r => exact ⟨_, _, rfl⟩
theorem alike_rows (S : List Rw) : PySem.W.AllAlike (S.map rD) := fun d hd d' hd' => by
  obtain ⟨r1, _, rfl⟩ := List.mem_map.mp hd
  obtain ⟨r2, _, rfl⟩ := List.mem_map.mp hd'
  exact alike_r r1 r2
theorem depth60 (S : List Rw) : ∀ d ∈ S.map rD, d.depth ≤ 60 := fun d hd => by
  obtain ⟨r1, _, rfl⟩ := List.mem_map.mp hd
  have := depth_r r1
  omega
section
variable {K : PySem.W.Frag} {H : Hp} {Q : VK}
/-- sorted of a list of rows -/
theorem sort_rows {σ : L2.St} {a : Addr} {S : List Rw} {n : Nat} (hS : RowsAt K H a S) (hnd : S.Nodup) (hn : ∀ x ∈ S, x.length = n) (k : ∀ p H', Same H H' → H p = none → RowsAt K H' p (srt rD S) → Q (.ref p) H') : tNil σ H fun us H2 => rSortedD K (.ref a :: us) H2 Q := by
  obtain ⟨xs, h1, h2⟩ := hS
  refine ⟨a, xs, S.map rD, rfl, SqL.of h1, h2, alike_rows S, sortable_rows hnd hn, depth60 S, fun ys p hys hp => ?_⟩
  refine k p _ (Same.new hp) hp ⟨ys, upd_same, DpAll.same (Same.new hp) _ _ ?_⟩
  rw [srt_map]
  exact hys
theorem at_last {xs : List V} {v : V} (h : xs[xs.length - 1]? = some v) : atI xs (-1) = some v := by
  have hl : 0 < xs.length := by
    cases xs with
    | nil => simp at h
    | cons x xs => simp
  have e : ixN xs.length (-1) = some (xs.length - 1) := by
    unfold ixN
    rw [if_neg (by decide), if_pos (by omega)]
    congr 1
    omega
  unfold atI
  rw [e]
  exact h
end
section
variable {P : Program} {w : World} {K : PySem.W.Frag} {mg : Str → Option Value} {base : Heap}
def spCase (K : PySem.W.Frag) : Sp := fun vs H Q _ => ∃ (l : Addr) (v m : V) (n : Nat) (row : Rw) (L : List (Int × Int)), vs = [.ref l, v, m] ∧ UrnAt H l n ∧ n ≤ 900 ∧ Dp K H v (rD row) ∧ Dp K H m (mD L) ∧ Prop1 L ∧ L.length ≤ 9 ∧ row.length ≤ 4 ∧
  ∀ H', But l H H' → UrnAt H' l (n + 3) → Q (.bl true) H'
theorem ok_caseRight (T : Tx K mg) : FnOk P w K mg base CX0 9 T.fLCaseRight T.fdLCaseRight ["_law_urn", "_law_flows_so", "_law_lets_so"] (spCase K) := by
  have G1 : FnOk P w K mg base CX0 8 T.fLShortest T.fdLShortest ["_law_flows_so", "_law_lets_so"] (spShortest K) := (ok_shortest T).mono (by decide)
  have G2 : FnOk P w K mg base CX0 8 T.fLDrawnTurns T.fdLDrawnTurns ["_law_urn", "_law_flows_so", "_law_lets_so"] (spDrawn K) := (ok_drawn T).mono (by decide)
  have G3 : FnOk P w K mg base CX0 8 T.fNormalWith T.fdNormalWith ["row", "meets"] (spNormW K) := (ok_normalWith T).mono (by decide)
  have G4 : FnOk P w K mg base CX0 8 T.fLReached T.fdLReached ["_law_flows_so", "_law_lets_so"] (spReached K) := (ok_reached T).mono (by decide)
  have G5 : FnOk P w K mg base CX0 8 T.fLUndone T.fdLUndone ["_law_flows_so"] (spUndone K) := (ok_undone T).mono (by decide)
  have G6 : FnOk P w K mg base CX0 8 T.fIsSameWith T.fdIsSameWith ["row", "other", "meets"] (spSameW K) := ok_isSameWith T
  have G7 : FnOk P w K mg base CX0 8 T.fLSame T.fdLSame ["_law_near", "_law_due"] (spSame K 6) := (ok_same T 6).mono (by decide)
  refine ok0 T.FLCaseRight scLCaseRight (fun vs H Q E h => ?_) (fun cdv A outer s H vs Q E hr h => ?_)
  · obtain ⟨l, v, m, n, row, L, rfl, _⟩ := h
    rfl
  · obtain ⟨l, v, m, n, row, L, rfl, hu, hn, hv, hm, hL, hLl, hlen, k⟩ := h
    have C := fr_com hL
    refine ⟨_, pss_cons (ps_set (i := 3) scLCaseRight.nd rfl (Or.inl rfl) (pe_call G1 hr rfl T.gLShortest T.FLShortest.kp T.bLShortest .nil pass0 (pa_cons (pv 1) (pa_cons (pv 2) pa_nil))))
      (pss_cons (ps_set (i := 4) scLCaseRight.nd rfl (Or.inl rfl) (pe_ix ix_list (pv 3) pe_int (fun _ _ => rfl)))
      (pss_cons (ps_set (i := 5) scLCaseRight.nd rfl (Or.inl rfl) (pe_call G2 hr rfl T.gLDrawnTurns T.FLDrawnTurns.kp T.bLDrawnTurns .nil pass0 (pa_cons (pv 0) (pa_cons (pv 1) (pa_cons (pv 2) pa_nil)))))
      (pss_cons (ps_set (i := 6) scLCaseRight.nd rfl (Or.inl rfl) (pe_lst
        (pa_cons (pe_call G3 hr rfl T.gNormalWith T.FNormalWith.kp T.bNormalWith .nil pass0 (pa_cons (pv 1) (pa_cons (pv 2) pa_nil)))
        (pa_cons (pe_call G3 hr rfl T.gNormalWith T.FNormalWith.kp T.bNormalWith .nil pass0 (pa_cons (pv 5) (pa_cons (pv 2) pa_nil)))
        (pa_cons (pe_call G3 hr rfl T.gNormalWith T.FNormalWith.kp T.bNormalWith .nil pass0 (pa_cons
            (pe_lc (own := [("_law_far", 9)]) (g := gName 9) (tt := tYes) (by rfl) scLCaseRight.nd (pi_tup (pv 1)) (blkOk_by (N := nLCaseRight) (sc := defScope sLCaseRight) (by decide +kernel))
              (fun _ _ _ _ _ => pg_name (i := 9) scLCaseRight.nd rfl (Or.inl rfl)) (fun _ _ _ _ _ => pts_nil)
              (fun _ _ _ _ _ => pe_lst (pa_cons (pe_ix (r := rIxT K) ix_tup (pv 9) pe_int (fun _ _ => rfl)) (pa_cons (pe_callTy (r := rLst K) call_list_of (by rfl) T.b_list PyProof.Rows.boot_list (pa_cons (pe_ix (r := rIxT K) ix_tup (pv 9) pe_int (fun _ _ => rfl)) pa_nil)) pa_nil))))
            (pa_cons (pe_lc (own := [("_law_far", 9)]) (g := gName 9) (tt := tYes) (by rfl) scLCaseRight.nd (pi_tup (pv 2)) (blkOk_by (N := nLCaseRight) (sc := defScope sLCaseRight) (by decide +kernel))
              (fun _ _ _ _ _ => pg_name (i := 9) scLCaseRight.nd rfl (Or.inl rfl)) (fun _ _ _ _ _ => pts_nil)
              (fun _ _ _ _ _ => pe_callTy (r := rLst K) call_list_of (by rfl) T.b_list PyProof.Rows.boot_list (pa_cons (pv 9) pa_nil))) pa_nil))) pa_nil)))))
      (pss_cons (ps_set (i := 7) scLCaseRight.nd rfl (Or.inl rfl) (pe_lst (pa_cons (pv 4) (pa_cons (pv 4) (pa_cons (pv 4) pa_nil)))))
      (pss_cons (ps_expr (pe_bm PySem.F.plainAttrs_list PySem.F.slot_list_append PySem.F.type_list_append mt_append (pv 6) (pa_cons (pe_callB (cr_sortedD (Room.u64 hr)) (by rfl) T.b_sorted PyProof.Rows.boot_sorted (pa_cons (pe_call G4 hr rfl T.gLReached T.FLReached.kp T.bLReached .nil pass0 (pa_cons (pv 4) (pa_cons (pv 2) pa_nil))) pa_nil)) pa_nil)))
      (pss_cons (ps_expr (pe_bm PySem.F.plainAttrs_list PySem.F.slot_list_append PySem.F.type_list_append mt_append (pv 7) (pa_cons (pe_callB (cr_sortedD (Room.u64 hr)) (by rfl) T.b_sorted PyProof.Rows.boot_sorted (pa_cons (pv 3) pa_nil)) pa_nil)))
      (pss_cons (ps_set (i := 8) scLCaseRight.nd rfl (Or.inl rfl) (pe_call G5 hr rfl T.gLUndone T.FLUndone.kp T.bLUndone .nil pass0 (pa_cons (pv 5) pa_nil)))
      (pss_cons (ps_set (i := 6) scLCaseRight.nd rfl (Or.inl rfl) (pe_op op_cat (pv 6) (pe_lst
        (pa_cons (pe_call G6 hr rfl T.gIsSameWith T.FIsSameWith.kp T.bIsSameWith .nil pass0 (pa_cons (pv 1) (pa_cons (pv 5) (pa_cons (pv 2) pa_nil))))
        (pa_cons (pe_call G6 hr rfl T.gIsSameWith T.FIsSameWith.kp T.bIsSameWith .nil pass0 (pa_cons (pv 1) (pa_cons (pe_ix ix_list (pv 3) (pe_un un_neg pe_int) (fun _ _ => rfl)) (pa_cons (pv 2) pa_nil))))
        (pa_cons (pe_call G6 hr rfl T.gIsSameWith T.FIsSameWith.kp T.bIsSameWith .nil pass0 (pa_cons (pe_op op_catA (pv 1) (pv 8)) (pa_cons (pe_tup pa_nil) (pa_cons (pv 2) pa_nil)))) pa_nil))))))
      (pss_one (ps_ret (pe_call G7 hr rfl T.gLSame T.FLSame.kp T.bLSame .nil pass0 (pa_cons (pv 6) (pa_cons (pe_op op_cat (pv 7) (pe_lst (pa_cons pe_bl (pa_cons pe_bl (pa_cons pe_bl pa_nil))))) pa_nil))))))))))))), ?_⟩
    refine ⟨_, rfl, _, rfl, v, m, row, L, rfl, hv, hm, hL, hlen, fun p H1 S e1 hp hS hnd hall hhd => ?_⟩
    obtain ⟨t0, rfl⟩ := hhd
    obtain ⟨ss, hss, hdss⟩ := id hS
    obtain ⟨w0, ws, rfl, hw0, hws⟩ : ∃ w0 ws, ss = w0 :: ws ∧ Dp K H1 w0 (rD (nf (fr L) row)) ∧ DpAll K H1 ws (t0.map rD) := by
      cases hdss with
      | cons h1 h2 => exact ⟨_, _, rfl, h1, h2⟩
    have u1 := hu.same e1
    refine ⟨_, rfl, p, _, _, w0, rfl, rfl, SqL.of hss, atI_nat (j := 0) rfl, ?_⟩
    refine ⟨_, rfl, _, rfl, _, rfl, l, v, m, n, row, L, rfl, u1, hn, Dp.same e1 _ _ hv, Dp.same e1 _ _ hm, by omega, fun vt t H2 b2 u2 hvt hrt => ?_⟩
    have npl : p ≠ l := fun z => by
      obtain ⟨_, _, _, q, _⟩ := hu
      rw [z, q] at hp
      cases hp
    have k2 := u1.kpt b2
    have hv2 := Dp.kpt k2 _ _ (tupD_r row) (Dp.same e1 _ _ hv)
    have hm2 := Dp.kpt k2 _ _ (tupD_m L) (Dp.same e1 _ _ hm)
    have hw2 := Dp.kpt k2 _ _ (tupD_r _) hw0
    have hS2 := hS.kpt k2 fun o ho => b2 p o npl ho
    have hss2 := b2 p _ npl hss
    have fin : ∀ H', Same H2 H' → Q (.bl true) H' := fun H' e => k H' (((But.of_same e1).trans b2).trans (But.of_same e)) (u2.same e)
    have htl := hrt.len
    have hNl : (nf (fr L) row).length ≤ row.length := (nf_rch C row).len
    have hNt : nf (fr L) t = nf (fr L) row := (nf_inv C hrt).symm
    have hNN : nf (fr L) (nf (fr L) row) = nf (fr L) row := (nf_inv C (nf_rch C row)).symm
    clear hv hm hu hw0 hws hdss hss hS e1 u1 k2 b2 u2 k
    obtain ⟨va, vx, rfl, hva, hvd⟩ := hv2.tup_inv
    obtain ⟨ma, mx, rfl, hma, hmd⟩ := hm2.tup_inv
    have hvl : vx.length = row.length := by rw [hvd.len, List.length_map]
    have hml : mx.length = L.length := by rw [hmd.len, List.length_map]
    refine ⟨_, rfl, _, rfl, _, _, row, L, rfl, RowIn.of hv2 (by omega), MeetIn.of hm2 (by omega) hL, fun a1 H3 e3 ha1 => ?_⟩
    refine ⟨_, rfl, _, rfl, vt, _, t, L, rfl, RowIn.of (Dp.same e3 _ _ hvt) (by omega), MeetIn.of (Dp.same e3 _ _ hm2) (by omega) hL, fun a2 H4 e4 ha2 => ?_⟩
    rw [hNt] at ha2
    have e34 := e3.trans e4
    refine ⟨_, rfl, va, rfl, ⟨vx, (KpT.of_same e34).seq hva⟩, fun D hD => ?_⟩
    refine lc_pure (K := K) (walk_tup (K := K) (a := va) (xs := vx)) (row.map fun x => some (lpD x)) (by rw [List.length_map, hvl]) (le_line (by omega)) hD (fun H' e => (KpT.of_same (e34.trans e)).seq hva) YAt.same (fun i x H5 H6 o ho e5 yy acc R Z hR hZ => ?_) fun H5 acc e5 hacc hac => ?_
    · obtain ⟨rfl, hx⟩ := yy
      obtain ⟨d1, hd1, hdx⟩ := hvd.get hx
      rw [List.getElem?_map] at hd1 ho
      obtain ⟨y, hy, ey⟩ := Option.map_eq_some_iff.mp hd1
      subst ey
      rw [hy] at ho
      have eo : o = some (lpD y) := (Option.some.inj ho).symm
      obtain ⟨b, u, rfl, hb, hu⟩ := pD_inv (Dp.same (e34.trans e5) _ _ hdx)
      obtain ⟨c, rfl, hc⟩ := fD_inv hu
      obtain ⟨acc, hacc⟩ := acc
      refine ⟨rfl, _, rfl, b, _, _, _, rfl, rfl, hb, at0, _, rfl, b, _, _, _, rfl, rfl, hb, at1, c, _, rfl, .inr hc, fun q hq => ⟨by show 2 ≤ sizeLine; decide, fun r hr => ?_⟩⟩
      have eq := Same.new (o := .lst [.int (fq y.2).1, .int (fq y.2).2]) hq
      have er := Same.new (o := .lst [.int y.1, .ref q]) hr
      have nqD : q ≠ D := fun z => by rw [z, hacc] at hq; cases hq
      have nrD : r ≠ D := fun z => by rw [z, eq _ _ hacc] at hr; cases hr
      refine hR _ _ _ eo (eq.trans er) fun H' bb => ?_
      exact .lst (SqL.of (bb r _ nrD upd_same)) (.two (.int _) (.lst (SqL.of (bb q _ nqD (er _ _ upd_same))) (.two (.int _) (.int _))))
    rw [filterMap_some] at hac
    have e45 := e34.trans e5
    refine ⟨_, rfl, ma, rfl, ⟨mx, (KpT.of_same e45).seq hma⟩, fun D2 hD2 => ?_⟩
    refine lc_pure (K := K) (walk_tup (K := K) (a := ma) (xs := mx)) (L.map fun x => some (.list [.int x.1, .int x.2])) (by rw [List.length_map, hml]) (le_line (by omega)) hD2 (fun H' e => (KpT.of_same (e45.trans e)).seq hma) YAt.same (fun i x H6 H7 o ho e6 yy acc R Z hR hZ => ?_) fun H6 acc2 e6 hacc2 hac2 => ?_
    · obtain ⟨rfl, hx⟩ := yy
      obtain ⟨d1, hd1, hdx⟩ := hmd.get hx
      rw [List.getElem?_map] at hd1 ho
      obtain ⟨y, hy, ey⟩ := Option.map_eq_some_iff.mp hd1
      subst ey
      rw [hy] at ho
      have eo : o = some (.list [.int y.1, .int y.2]) := (Option.some.inj ho).symm
      obtain ⟨b, us, rfl, hb, hdu⟩ := (Dp.same (e45.trans e6) _ _ hdx).tup_inv
      obtain ⟨z1, z2, rfl, hz1, hz2⟩ := hdu.two_inv
      rw [hz1.int_inv, hz2.int_inv] at hb
      obtain ⟨acc, hacc⟩ := acc
      refine ⟨rfl, _, rfl, b, _, rfl, .inr hb, fun q hq => ?_⟩
      have nqD : q ≠ D2 := fun z => by rw [z, hacc] at hq; cases hq
      refine hR _ _ _ eo (Same.new hq) fun H' bb => ?_
      exact .lst (SqL.of (bb q _ nqD upd_same)) (.two (.int _) (.int _))
    rw [filterMap_some] at hac2
    refine ⟨.ref D, .ref D2, row, L, rfl, RowIn.of_l (.lst (SqL.of (e6 _ _ hacc)) (hac H6 (But.of_same e6))) (by omega), MeetIn.of_l (.lst (SqL.of hacc2) (hac2 H6 (But.refl _ _))) (by omega) hL, fun a3 H7 e7 ha3 => ⟨by show 3 ≤ sizeLine; decide, fun hh hhh => ?_⟩⟩
    have e27 := e45.trans (e6.trans e7)
    have e47 := (e5.trans e6).trans e7
    have ehh := Same.new (o := .lst [a1, a2, a3]) hhh
    have hh2 := free_same e27 hhh
    have nph : p ≠ hh := fun z => by rw [z, hh2] at hss2; cases hss2
    refine ⟨_, rfl, _, rfl, _, rfl, by show 3 ≤ sizeLine; decide, fun du hdu => ?_⟩
    have edu := Same.new (o := .lst [w0, w0, w0]) hdu
    have e28 := (e27.trans ehh).trans edu
    have hdu2 := free_same (e27.trans ehh) hdu
    have ndh : du ≠ hh := fun z => by rw [z, upd_same] at hdu; cases hdu
    have npd : p ≠ du := fun z => by rw [z, hdu2] at hss2; cases hss2
    have hA : DpAll K (upd (upd H7 hh (.lst [a1, a2, a3])) du (.lst [w0, w0, w0])) [a1, a2, a3] [rD (nf (fr L) row), rD (nf (fr L) row), rD (nf (fr L) row)] :=
      DpAll.same (ehh.trans edu) _ _ (.cons (Dp.same (e4.trans e47) _ _ ha1) (.two (Dp.same e47 _ _ ha2) ha3))
    have hhA : (upd (upd H7 hh (.lst [a1, a2, a3])) du (.lst [w0, w0, w0])) hh = some (.lst [a1, a2, a3]) := edu _ _ upd_same
    have hhB : (upd (upd H7 hh (.lst [a1, a2, a3])) du (.lst [w0, w0, w0])) du = some (.lst [w0, w0, w0]) := upd_same
    generalize upd (upd H7 hh (.lst [a1, a2, a3])) du (.lst [w0, w0, w0]) = H8 at e28 hA hhA hhB ⊢
    clear ehh edu e27 e47 e7 e6 e45 e34 e3 e4 e5 hac hac2 hacc hacc2 ha1 ha2 ha3 hD hD2 hhh hdu
    refine ⟨_, rfl, .inl ⟨rfl, _, SqL.of hhA⟩, _, rfl, _, rfl, w0, _, _, L, rfl, Dp.same e28 _ _ hw2, Dp.same e28 _ _ hm2, hL, by omega, fun f H9 found e9 hf hR hnd2 hall2 => ?_⟩
    refine sort_rows (n := (nf (fr L) row).length) hR hnd2 (fun x hx => reach_len C rfl ((hall2 x).mp hx)) fun q H10 e10 hq hRq => ?_
    have e8A := e9.trans e10
    have nqh : q ≠ hh := fun z => by rw [z, e9 _ _ hhA] at hq; cases hq
    have nqd : q ≠ du := fun z => by rw [z, e9 _ _ hhB] at hq; cases hq
    have hhA1 := e8A _ _ hhA
    refine ⟨hh, _, .ref q, rfl, rfl, hhA1, by show 3 < sizeLine; decide, ?_⟩
    have hhA2 : (upd H10 hh (.lst ([a1, a2, a3] ++ [.ref q]))) hh = some (.lst [a1, a2, a3, .ref q]) := upd_same
    have hhB2 : (upd H10 hh (.lst ([a1, a2, a3] ++ [.ref q]))) du = some (.lst [w0, w0, w0]) := by rw [upd_ne ndh]; exact e8A _ _ hhB
    have k11 : KpT H10 (upd H10 hh (.lst ([a1, a2, a3] ++ [.ref q]))) := KpT.upd_lst hhA1
    have hRq2 : RowsAt K (upd H10 hh (.lst ([a1, a2, a3] ++ [.ref q]))) q (srt rD found) := hRq.kpt k11 fun o ho => by rw [upd_ne nqh]; exact ho
    have e2B : Same H2 (upd H10 hh (.lst ([a1, a2, a3] ++ [.ref q]))) := Same.mut (e28.trans e8A) hh2
    have k8B := (KpT.of_same e8A).trans k11
    generalize upd H10 hh (.lst ([a1, a2, a3] ++ [.ref q])) = H11 at hhA2 hhB2 k11 hRq2 e2B k8B ⊢
    have hsr : srt rD found = srt rD (nf (fr L) row :: t0) := srt_eq (perm_of_mem hnd2 hnd fun x => (hall2 x).trans (hall x).symm)
    rw [hsr] at hRq2
    have hA2 := DpAll.kpt k8B _ _ (show tupDs [rD (nf (fr L) row), rD (nf (fr L) row), rD (nf (fr L) row)] = true from tupDs_r [_, _, _]) hA
    refine ⟨_, rfl, .inl ⟨rfl, _, SqL.of hhB2⟩, _, rfl, ?_⟩
    refine sort_rows (n := (nf (fr L) row).length) (hS2.same e2B) hnd (fun x hx => reach_len C rfl ((hall x).mp hx)) fun q2 H12 e12 hq2 hRq3 => ?_
    have nq2h : q2 ≠ hh := fun z => by rw [z, hhA2] at hq2; cases hq2
    have nq2d : q2 ≠ du := fun z => by rw [z, hhB2] at hq2; cases hq2
    have hhB3 := e12 _ _ hhB2
    refine ⟨du, _, .ref q2, rfl, rfl, hhB3, by show 3 < sizeLine; decide, ?_⟩
    have k13 : KpT H12 (upd H12 du (.lst ([w0, w0, w0] ++ [.ref q2]))) := KpT.upd_lst hhB3
    have hhA4 : (upd H12 du (.lst ([w0, w0, w0] ++ [.ref q2]))) hh = some (.lst [a1, a2, a3, .ref q]) := by rw [upd_ne (Ne.symm ndh)]; exact e12 _ _ hhA2
    have hhB4 : (upd H12 du (.lst ([w0, w0, w0] ++ [.ref q2]))) du = some (.lst [w0, w0, w0, .ref q2]) := upd_same
    have hRq4 : RowsAt K (upd H12 du (.lst ([w0, w0, w0] ++ [.ref q2]))) q (srt rD (nf (fr L) row :: t0)) := (hRq2.same e12).kpt k13 fun o ho => by rw [upd_ne nqd]; exact ho
    have hRq5 : RowsAt K (upd H12 du (.lst ([w0, w0, w0] ++ [.ref q2]))) q2 (srt rD (nf (fr L) row :: t0)) := hRq3.kpt k13 fun o ho => by rw [upd_ne nq2d]; exact ho
    have e2D : Same H2 (upd H12 du (.lst ([w0, w0, w0] ++ [.ref q2]))) := Same.mut (e2B.trans e12) hdu2
    have hA4 := DpAll.kpt ((KpT.of_same e12).trans k13) _ _ (show tupDs [rD (nf (fr L) row), rD (nf (fr L) row), rD (nf (fr L) row)] = true from tupDs_r [_, _, _]) hA2
    generalize upd H12 du (.lst ([w0, w0, w0] ++ [.ref q2])) = H13 at hhA4 hhB4 k13 hRq4 hRq5 e2D hA4 ⊢
    have hA5 : DpAll K H13 [a1, a2, a3, .ref q] [rD (nf (fr L) row), rD (nf (fr L) row), rD (nf (fr L) row), rsD (srt rD (nf (fr L) row :: t0))] := DpAll.app hA4 (DpAll.one hRq4.dp)
    have hw13 := Dp.same e2D _ _ hw2
    have hB5 : DpAll K H13 [w0, w0, w0, .ref q2] [rD (nf (fr L) row), rD (nf (fr L) row), rD (nf (fr L) row), rsD (srt rD (nf (fr L) row :: t0))] := .cons hw13 (.cons hw13 (.cons hw13 (DpAll.one hRq5.dp)))
    clear hA4 hRq4 hRq5 k13 hRq3 e12 hA2 hRq2 hsr k8B e2B hhA2 hhB2 hhA1 hhB3 hhA hhB hA e28 e9 e10 hRq hR k11 e8A
    refine ⟨_, rfl, vt, t, rfl, Dp.same e2D _ _ hvt, by omega, fun vb H14 e14 hvb => ?_⟩
    have e2E := e2D.trans e14
    refine ⟨_, rfl, _, rfl, _, rfl, _, rfl, _, vt, _, row, t, L, rfl, RowIn.of (Dp.same e2E _ _ hv2) (by omega), RowIn.of (Dp.same e2E _ _ hvt) (by omega), MeetIn.of (Dp.same e2E _ _ hm2) (by omega) hL, fun H15 e15 => ?_⟩
    have e2F := e2E.trans e15
    obtain ⟨ss2, hss3, hds3⟩ := id hS2
    rw [hss2] at hss3
    cases hss3
    have hwl : (w0 :: ws).length = (nf (fr L) row :: t0).length := by rw [hds3.len, List.length_map]
    obtain ⟨lr, hlr⟩ : ∃ lr, (nf (fr L) row :: t0)[(w0 :: ws).length - 1]? = some lr := ⟨_, List.getElem?_eq_getElem (by rw [hwl]; simp)⟩
    obtain ⟨vl, hvl1, hvl2⟩ := hds3.at (i := (w0 :: ws).length - 1) (d := rD lr) (by rw [List.getElem?_map, hlr]; rfl)
    have hlr1 := (hall lr).mp (List.mem_of_getElem? hlr)
    have hlrl := reach_len C rfl hlr1
    have hlr2 : nf (fr L) lr = nf (fr L) row := by rw [← nf_inv C hlr1, hNN]
    refine ⟨_, rfl, _, rfl, 1, rfl, p, _, _, vl, rfl, rfl, SqL.of (e2F _ _ hss2), at_last hvl1, _, rfl, _, vl, _, row, lr, L, rfl, RowIn.of (Dp.same e2F _ _ hv2) (by omega), RowIn.of (Dp.same e2F _ _ hvl2) (by omega), MeetIn.of (Dp.same e2F _ _ hm2) (by omega) hL, fun H16 e16 => ?_⟩
    have e2G := e2F.trans e16
    have hil : (inv t).length = t.length := by unfold inv; rw [List.length_map, List.length_reverse]
    refine ⟨_, rfl, _, rfl, cat_row (Dp.same e2G _ _ hv2) (Dp.same (e15.trans e16) _ _ hvb) (by omega) fun vc H17 e17 hvc => ⟨Nat.zero_le _, fun em hem => ?_⟩⟩
    have eem := Same.new (o := .tup []) hem
    have e2H := (e2G.trans e17).trans eem
    refine ⟨_, rfl, vc, .ref em, _, row ++ inv t, [], L, rfl, RowIn.of (Dp.same eem _ _ hvc) (by rw [List.length_append]; omega), RowIn.of (.tup (SqT.of upd_same) .nil) (by decide), MeetIn.of (Dp.same e2H _ _ hm2) (by omega) hL, fun H18 e18 => ⟨by show 3 ≤ sizeLine; decide, fun lb hlb => ?_⟩⟩
    have e1318 := ((e14.trans e15).trans (e16.trans e17)).trans (eem.trans e18)
    have q1 : decide (nf (fr L) row = nf (fr L) t) = true := decide_eq_true hNt.symm
    have q2' : decide (nf (fr L) row = nf (fr L) lr) = true := decide_eq_true hlr2.symm
    have q3 : decide (nf (fr L) (row ++ inv t) = nf (fr L) []) = true := decide_eq_true (by rw [nf_undone C hrt]; exact nf_nil.symm)
    rw [q1, q2', q3] at *
    have elb := Same.new (o := .lst [V.bl true, .bl true, .bl true]) hlb
    have e19 := e1318.trans elb
    refine ⟨hh, lb, _, _, rfl, rfl, e19 _ _ hhA4, upd_same, by show 7 ≤ sizeLine; decide, fun h2 hh2' => ?_⟩
    have eh2 := Same.new (o := .lst ([a1, a2, a3, V.ref q] ++ [V.bl true, .bl true, .bl true])) hh2'
    have e20 := e19.trans eh2
    refine ⟨_, rfl, _, rfl, by show 3 ≤ sizeLine; decide, fun lt hlt => ?_⟩
    have elt := Same.new (o := .lst [V.bl true, .bl true, .bl true]) hlt
    have e21 := e20.trans elt
    refine ⟨du, lt, _, _, rfl, rfl, e21 _ _ hhB4, upd_same, by show 7 ≤ sizeLine; decide, fun d2 hd2 => ?_⟩
    have ed2 := Same.new (o := .lst ([w0, w0, w0, V.ref q2] ++ [V.bl true, .bl true, .bl true])) hd2
    have e22 := e21.trans ed2
    have three : ∀ H', DpAll K H' [V.bl true, .bl true, .bl true] [.bool true, .bool true, .bool true] := fun H' => .cons (.bl _) (.two (.bl _) (.bl _))
    refine ⟨_, _, .list ([rD (nf (fr L) row), rD (nf (fr L) row), rD (nf (fr L) row), rsD (srt rD (nf (fr L) row :: t0))] ++ [.bool true, .bool true, .bool true]), rfl,
      .lst (SqL.of (ed2 _ _ (elt _ _ upd_same))) (DpAll.app (DpAll.same e22 _ _ hA5) (three _)), .lst (SqL.of upd_same) (DpAll.app (DpAll.same e22 _ _ hB5) (three _)), ?_, ?_, fun H' e' => fin H' ((e2D.trans e22).trans e')⟩
    · have h1 := depth_r (nf (fr L) row)
      have h2 := depth_srt (srt rD (nf (fr L) row :: t0))
      simp only [List.cons_append, List.nil_append, PyData.depth, PyData.depthAll]
      omega
    · have hsl : (srt rD (nf (fr L) row :: t0)).length ≤ most := by
        rw [(srt_perm rD _).length_eq]
        exact rch_most (r := nf (fr L) row) (by omega) hnd fun s hs => (hall s).mp hs
      have hm16 : most ≤ 16000000 := by decide
      have hN := okS_r (r := nf (fr L) row) (by omega)
      have hSr : okS (rsD (srt rD (nf (fr L) row :: t0))) = true := okS_lst_of (by rw [List.length_map]; omega) fun d hd => by
        obtain ⟨x, hx, rfl⟩ := List.mem_map.mp hd
        have := reach_len C rfl ((hall x).mp ((srt_perm rD _).mem_iff.mp hx))
        exact okS_r (by omega)
      refine okS_lst_of (by show 7 ≤ 16000000; decide) fun d hd => ?_
      simp only [List.cons_append, List.nil_append, List.mem_cons, List.not_mem_nil, or_false] at hd
      rcases hd with rfl | rfl | rfl | rfl | rfl | rfl | rfl
      · exact hN
      · exact hN
      · exact hN
      · exact hSr
      · simp [okS]
      · simp [okS]
      · simp [okS]
end
end K26
end
section
set_option Elab.async false
set_option linter.all false
set_option maxRecDepth 100000
set_option maxHeartbeats 400000
/-! _law_by_hand_right -/
namespace K26
open PySem PySem.Spec PyProof.Rows L2
/-! displays of data, step by step -/
section
variable {K : PySem.W.Frag} {H0 : Hp} {σ : L2.St}
/-- te gives the data d, and changes nothing -/
def Mks (K : PySem.W.Frag) (H0 : Hp) (te : TE) (σ : L2.St) (d : PyData) : Prop := ∀ H Q, Same H0 H → (∀ v H', Same H H' → Dp K H' v d → Q v H') → te σ H Q
def Mas (K : PySem.W.Frag) (H0 : Hp) (ta : TA) (σ : L2.St) (ds : List PyData) : Prop := ∀ H (Q : List V → Hp → Prop), Same H0 H → (∀ vs H', Same H H' → DpAll K H' vs ds → Q vs H') → ta σ H Q
/-- te gives a new list of ds -/
def Mls (K : PySem.W.Frag) (H0 : Hp) (te : TE) (σ : L2.St) (ds : List PyData) : Prop := ∀ H Q, Same H0 H → (∀ l xs H', Same H H' → H' l = some (.lst xs) → DpAll K H' xs ds → Q (.ref l) H') → te σ H Q
theorem mk_int {i : Int} : Mks K H0 (tC (.int i)) σ (.int i) := fun H Q _ k => k _ _ (Same.refl _) (.int _)
theorem mk_bl {b : Bool} : Mks K H0 (tC (.bl b)) σ (.bool b) := fun H Q _ k => k _ _ (Same.refl _) (.bl _)
theorem mk_neg {i : Int} : Mks K H0 (tUn (rU fun i => .int (-i)) (tC (.int i))) σ (.int (-i)) := fun H Q _ k => ⟨i, rfl, k _ _ (Same.refl _) (.int _)⟩
theorem mk_var {i : Nat} {v : V} {d : PyData} (h : σ[i]? = some (some v)) (hd : Dp K H0 v d) : Mks K H0 (tVar i) σ d := fun H Q e k => ⟨v, h, k v H (Same.refl _) (Dp.same e _ _ hd)⟩
theorem mas_nil : Mas K H0 tNil σ [] := fun H Q _ k => k [] H (Same.refl _) .nil
theorem mas_cons {te : TE} {ta : TA} {d : PyData} {ds : List PyData} (h : Mks K H0 te σ d) (g : Mas K H0 ta σ ds) : Mas K H0 (tCons te ta) σ (d :: ds) := fun H Q e k =>
  h H _ e fun v H1 e1 hv => g H1 _ (e.trans e1) fun vs H2 e2 hvs => k (v :: vs) H2 (e1.trans e2) (.cons (Dp.same e2 _ _ hv) hvs)
theorem mk_tup {ta : TA} {ds : List PyData} (h : Mas K H0 ta σ ds) (hl : ds.length ≤ 1000000) : Mks K H0 (tTup ta) σ (.tuple ds) := fun H Q e k =>
  h H _ e fun vs H1 e1 hvs => ⟨le_line (by rw [hvs.len]; exact hl), fun p hp => k _ _ (e1.trans (Same.new hp)) (.tup (SqT.of upd_same) (DpAll.same (Same.new hp) _ _ hvs))⟩
theorem ml_lst {ta : TA} {ds : List PyData} (h : Mas K H0 ta σ ds) (hl : ds.length ≤ 1000000) : Mls K H0 (tLst ta) σ ds := fun H Q e k =>
  h H _ e fun vs H1 e1 hvs => ⟨le_line (by rw [hvs.len]; exact hl), fun p hp => k p vs _ (e1.trans (Same.new hp)) upd_same (DpAll.same (Same.new hp) _ _ hvs)⟩
theorem ml_var {i : Nat} {l : Addr} {xs : List V} {ds : List PyData} (h : σ[i]? = some (some (.ref l))) (hl : H0 l = some (.lst xs)) (hd : DpAll K H0 xs ds) : Mls K H0 (tVar i) σ ds := fun H Q e k =>
  ⟨_, h, k l xs H (Same.refl _) (e _ _ hl) (DpAll.same e _ _ hd)⟩
theorem ml_cat {ta tb : TE} {ds es : List PyData} (h : Mls K H0 ta σ ds) (g : Mls K H0 tb σ es) (hl : ds.length + es.length ≤ 1000000) : Mls K H0 (tOp rCat ta tb) σ (ds ++ es) := fun H Q e k =>
  h H _ e fun l xs H1 e1 h1 d1 => g H1 _ (e.trans e1) fun b ys H2 e2 h2 d2 => ⟨l, b, xs, ys, rfl, rfl, e2 _ _ h1, h2, le_line (by rw [d1.len, d2.len]; exact hl), fun p hp =>
    k p _ _ ((e1.trans e2).trans (Same.new hp)) upd_same ((DpAll.same (e2.trans (Same.new hp)) _ _ d1).app (DpAll.same (Same.new hp) _ _ d2))⟩
theorem ml_mk {te : TE} {ds : List PyData} (h : Mls K H0 te σ ds) : Mks K H0 te σ (.list ds) := fun H Q e k => h H Q e fun l xs H' e1 h1 h2 => k _ _ e1 (.lst (SqL.of h1) h2)
theorem mk_rev {te : TE} {ds : List PyData} (h : Mks K H0 te σ (.tuple ds)) : Mks K H0 (tRevT K te) σ (.tuple ds.reverse) := fun H Q e k =>
  h H _ e fun v H1 e1 hv => by
    obtain ⟨a, xs, rfl, hx, hd⟩ := hv.tup_inv
    exact ⟨a, xs, rfl, hx, fun p hp => k _ _ (e1.trans (Same.new hp)) (.tup (SqT.of upd_same) ((DpAll.same (Same.new hp) _ _ hd).rev))⟩
theorem mk_nw {ta tb : TE} {row out : Rw} {L : List (Int × Int)} (h : Mks K H0 ta σ (rD row)) (g : Mks K H0 tb σ (mD L)) (hl : row.length ≤ 100) (hL : L.length ≤ 100) (hp : Prop1 L) (ho : nf (fr L) row = out) : Mks K H0 (tCall (spNormW K) [] E0 (tCons ta (tCons tb tNil))) σ (rD out) := fun H Q e k =>
  h H _ e fun v H1 e1 hv => g H1 _ (e.trans e1) fun u H2 e2 hu => ⟨v, u, row, L, rfl, RowIn.of (Dp.same e2 _ _ hv) hl, MeetIn.of hu hL hp, fun w H3 e3 hw => k w H3 ((e1.trans e2).trans e3) (by rw [← ho]; exact hw)⟩
theorem mk_sw {ta tb tc : TE} {row oth : Rw} {L : List (Int × Int)} {b : Bool} (h : Mks K H0 ta σ (rD row)) (h2 : Mks K H0 tb σ (rD oth)) (g : Mks K H0 tc σ (mD L)) (hl : row.length ≤ 100) (hl2 : oth.length ≤ 100) (hL : L.length ≤ 100) (hp : Prop1 L) (ho : decide (nf (fr L) row = nf (fr L) oth) = b) :
    Mks K H0 (tCall (spSameW K) [] E0 (tCons ta (tCons tb (tCons tc tNil)))) σ (.bool b) := fun H Q e k =>
  h H _ e fun v H1 e1 hv => h2 H1 _ (e.trans e1) fun u H2 e2 hu => g H2 _ ((e.trans e1).trans e2) fun x H3 e3 hx => ⟨v, u, x, row, oth, L, rfl, RowIn.of (Dp.same (e2.trans e3) _ _ hv) hl, RowIn.of (Dp.same e3 _ _ hu) hl2, MeetIn.of hx hL hp, fun H4 e4 => by
    rw [ho]
    exact k _ H4 (((e1.trans e2).trans e3).trans e4) (.bl b)⟩
theorem mk_is {ta tb : TE} {row oth : Rw} {b : Bool} (h : Mks K H0 ta σ (rD row)) (h2 : Mks K H0 tb σ (rD oth)) (hl : row.length ≤ 100) (hl2 : oth.length ≤ 100) (ho : decide (nR row = nR oth) = b) :
    Mks K H0 (tCall (spIsSame K) [] E0 (tCons ta (tCons tb tNil))) σ (.bool b) := fun H Q e k =>
  h H _ e fun v H1 e1 hv => h2 H1 _ (e.trans e1) fun u H2 e2 hu => ⟨v, u, row, oth, rfl, RowIn.of (Dp.same e2 _ _ hv) hl, RowIn.of hu hl2, fun H4 e4 => by
    rw [ho]
    exact k _ H4 ((e1.trans e2).trans e4) (.bl b)⟩
theorem asg_mkg {te : TE} {g : TG} {D : Ends} {H : Hp} {d : PyData} {u : TS} (h : Mks K H te σ d) (k : ∀ v H', Same H H' → Dp K H' v d → g v σ H' (u D)) : tSeq (tAsg te g) u D σ H := h H _ (Same.refl _) fun v H' e hd => k v H' e hd
theorem asg_mk {te : TE} {i : Nat} {D : Ends} {H : Hp} {d : PyData} {u : TS} (h : Mks K H te σ d) (k : ∀ v H', Same H H' → Dp K H' v d → u D (σ.set i (some v)) H') : tSeq (tAsg te (gName i)) u D σ H := h H _ (Same.refl _) fun v H' e hd => k v H' e hd
theorem asg_ml {te : TE} {i : Nat} {D : Ends} {H : Hp} {ds : List PyData} {u : TS} (h : Mls K H te σ ds) (k : ∀ l xs H', Same H H' → H' l = some (.lst xs) → DpAll K H' xs ds → u D (σ.set i (some (.ref l))) H') : tSeq (tAsg te (gName i)) u D σ H := h H _ (Same.refl _) fun l xs H' e h1 h2 => k l xs H' e h1 h2
theorem ret_same {ta tb : TE} {n : Nat} {D : Ends} {H : Hp} {d : PyData} (h : Mks K H ta σ d) (g : Mks K H tb σ d) (hn : d.depth ≤ n) (hs : okS d = true) (k : ∀ H', Same H H' → D.rt (.bl true) H') : tRet (tCall (spSame K n) [] E0 (tCons ta (tCons tb tNil))) D σ H :=
  h H _ (Same.refl _) fun v H1 e1 hv => g H1 _ e1 fun u H2 e2 hu => ⟨v, u, d, rfl, Dp.same e2 _ _ hv, hu, hn, hs, fun H' e3 => k H' ((e1.trans e2).trans e3)⟩
end
/-! the answers by hand -/
def three : Rw := [(1, 6), (2, 3), (0, 6), (1, -6)]
def wait : Rw := [(2, 6), (1, 6), (0, 6)]
theorem by1 : nf (fr [(0, 1), (1, 2)]) three = [(2, 3), (0, 6)] := by decide
theorem by2 : nf (fr [(0, 1)]) three = three := by decide
theorem by3 : nf (fr [(0, 2), (1, 2)]) three = [(1, 6), (0, 6), (1, -6), (2, 3)] := by decide
theorem by4 : nf (fr []) three = three := by decide
theorem by5 : nf (fr [(0, 1), (0, 2), (1, 2)]) wait = wait.reverse := by decide
theorem by6 : nf (fr [(0, 1)]) wait = [(2, 6), (0, 6), (1, 6)] := by decide
theorem by7 : nf (fr [(0, 1), (0, 2)]) wait = [(0, 6), (2, 6), (1, 6)] := by decide
theorem by8 : nf (fr [(1, 3)]) [(3, 6), (1, 3)] = nf (fr [(1, 3)]) [(1, 3), (3, 6)] := by decide
theorem by9 : nf (fr []) [(0, 6), (2, 0), (0, -6)] = nf (fr []) [] := by decide
theorem by11 : nf (fr [(0, 1)]) [] = [] := rfl
theorem f6 : fD 6 = .tuple [.int 1, .int 1] := by unfold fD; rw [show fq 6 = (1, 1) by decide]
theorem f3 : fD 3 = .tuple [.int 1, .int 2] := by unfold fD; rw [show fq 3 = (1, 2) by decide]
theorem fm6 : fD (-6) = .tuple [.int (-1), .int 1] := by unfold fD; rw [show fq (-6) = (-1, 1) by decide]
theorem f0 : fD 0 = .tuple [.int 0, .int 1] := by unfold fD; rw [show fq 0 = (0, 1) by decide]
theorem four_inv {K : PySem.W.Frag} {H : Hp} {vs : List V} {a b c d : PyData} (h : DpAll K H vs [a, b, c, d]) : ∃ x y z w, vs = [x, y, z, w] ∧ Dp K H x a ∧ Dp K H y b ∧ Dp K H z c ∧ Dp K H w d := by
  cases h with
  | cons h1 t =>
    cases t with
    | cons h2 t =>
      obtain ⟨z, w, rfl, h3, h4⟩ := DpAll.two_inv t
      exact ⟨_, _, z, w, rfl, h1, h2, h3, h4⟩
theorem by10 : ¬ nf (fr [(0, 2), (1, 2)]) [(0, 6), (1, 6), (0, -6), (1, -6)] = nf (fr [(0, 2), (1, 2)]) [] := by decide
section
variable {P : Program} {w : World} {K : PySem.W.Frag} {mg : Str → Option Value} {base : Heap}
def spTrue : Sp := fun vs H Q _ => vs = [] ∧ ∀ H', Same H H' → Q (.bl true) H'
theorem ok_byHand (T : Tx K mg) : FnOk P w K mg base CX0 9 T.fLByHandRight T.fdLByHandRight [] spTrue := by
  have G3 : FnOk P w K mg base CX0 8 T.fNormalWith T.fdNormalWith ["row", "meets"] (spNormW K) := (ok_normalWith T).mono (by decide)
  have G6 : FnOk P w K mg base CX0 8 T.fIsSameWith T.fdIsSameWith ["row", "other", "meets"] (spSameW K) := ok_isSameWith T
  have G7 : FnOk P w K mg base CX0 8 T.fLSame T.fdLSame ["_law_near", "_law_due"] (spSame K 6) := (ok_same T 6).mono (by decide)
  refine ok0 T.FLByHandRight scLByHandRight (fun vs H Q E h => ?_) (fun cdv A outer s H vs Q E hr h => ?_)
  · rw [h.1]
    rfl
  · obtain ⟨rfl, k⟩ := h
    refine ⟨_, pss_cons (ps_asg (pe_tup (pa_cons (pe_tup (pa_cons pe_int (pa_cons pe_int pa_nil))) (pa_cons (pe_tup (pa_cons pe_int (pa_cons pe_int pa_nil))) (pa_cons (pe_tup (pa_cons (pe_un un_neg pe_int) (pa_cons pe_int pa_nil))) (pa_cons (pe_tup (pa_cons pe_int (pa_cons pe_int pa_nil))) pa_nil))))) (pg_tup rfl (pgs_cons (pg_name (i := 0) scLByHandRight.nd rfl (Or.inl rfl)) (pgs_cons (pg_name (i := 1) scLByHandRight.nd rfl (Or.inl rfl)) (pgs_cons (pg_name (i := 2) scLByHandRight.nd rfl (Or.inl rfl)) (pgs_cons (pg_name (i := 3) scLByHandRight.nd rfl (Or.inl rfl)) pgs_nil))))))
      (pss_cons (ps_set (i := 4) scLByHandRight.nd rfl (Or.inl rfl) (pe_tup (pa_cons (pe_tup (pa_cons pe_int (pa_cons (pv 0) pa_nil))) (pa_cons (pe_tup (pa_cons pe_int (pa_cons (pv 1) pa_nil))) (pa_cons (pe_tup (pa_cons pe_int (pa_cons (pv 0) pa_nil))) (pa_cons (pe_tup (pa_cons pe_int (pa_cons (pv 2) pa_nil))) pa_nil))))))
      (pss_cons (ps_set (i := 5) scLByHandRight.nd rfl (Or.inl rfl) (pe_lst (pa_cons (pe_call G3 hr rfl T.gNormalWith T.FNormalWith.kp T.bNormalWith .nil pass0 (pa_cons (pv 4) (pa_cons (pe_tup (pa_cons (pe_tup (pa_cons pe_int (pa_cons pe_int pa_nil))) (pa_cons (pe_tup (pa_cons pe_int (pa_cons pe_int pa_nil))) pa_nil))) pa_nil))) (pa_cons (pe_call G3 hr rfl T.gNormalWith T.FNormalWith.kp T.bNormalWith .nil pass0 (pa_cons (pv 4) (pa_cons (pe_tup (pa_cons (pe_tup (pa_cons pe_int (pa_cons pe_int pa_nil))) pa_nil)) pa_nil))) (pa_cons (pe_call G3 hr rfl T.gNormalWith T.FNormalWith.kp T.bNormalWith .nil pass0 (pa_cons (pv 4) (pa_cons (pe_tup (pa_cons (pe_tup (pa_cons pe_int (pa_cons pe_int pa_nil))) (pa_cons (pe_tup (pa_cons pe_int (pa_cons pe_int pa_nil))) pa_nil))) pa_nil))) (pa_cons (pe_call G3 hr rfl T.gNormalWith T.FNormalWith.kp T.bNormalWith .nil pass0 (pa_cons (pv 4) (pa_cons (pe_tup pa_nil) pa_nil))) pa_nil))))))
      (pss_cons (ps_set (i := 6) scLByHandRight.nd rfl (Or.inl rfl) (pe_lst (pa_cons (pe_tup (pa_cons (pe_tup (pa_cons pe_int (pa_cons (pv 1) pa_nil))) (pa_cons (pe_tup (pa_cons pe_int (pa_cons (pv 0) pa_nil))) pa_nil))) (pa_cons (pv 4) (pa_cons (pe_tup (pa_cons (pe_tup (pa_cons pe_int (pa_cons (pv 0) pa_nil))) (pa_cons (pe_tup (pa_cons pe_int (pa_cons (pv 0) pa_nil))) (pa_cons (pe_tup (pa_cons pe_int (pa_cons (pv 2) pa_nil))) (pa_cons (pe_tup (pa_cons pe_int (pa_cons (pv 1) pa_nil))) pa_nil))))) (pa_cons (pv 4) pa_nil))))))
      (pss_cons (ps_set (i := 7) scLByHandRight.nd rfl (Or.inl rfl) (pe_tup (pa_cons (pe_tup (pa_cons pe_int (pa_cons (pv 0) pa_nil))) (pa_cons (pe_tup (pa_cons pe_int (pa_cons (pv 0) pa_nil))) (pa_cons (pe_tup (pa_cons pe_int (pa_cons (pv 0) pa_nil))) pa_nil)))))
      (pss_cons (ps_set (i := 5) scLByHandRight.nd rfl (Or.inl rfl) (pe_op op_cat (pv 5) (pe_lst (pa_cons (pe_call G3 hr rfl T.gNormalWith T.FNormalWith.kp T.bNormalWith .nil pass0 (pa_cons (pv 7) (pa_cons (pe_tup (pa_cons (pe_tup (pa_cons pe_int (pa_cons pe_int pa_nil))) (pa_cons (pe_tup (pa_cons pe_int (pa_cons pe_int pa_nil))) (pa_cons (pe_tup (pa_cons pe_int (pa_cons pe_int pa_nil))) pa_nil)))) pa_nil))) (pa_cons (pe_call G3 hr rfl T.gNormalWith T.FNormalWith.kp T.bNormalWith .nil pass0 (pa_cons (pv 7) (pa_cons (pe_tup (pa_cons (pe_tup (pa_cons pe_int (pa_cons pe_int pa_nil))) pa_nil)) pa_nil))) (pa_cons (pe_call G3 hr rfl T.gNormalWith T.FNormalWith.kp T.bNormalWith .nil pass0 (pa_cons (pv 7) (pa_cons (pe_tup (pa_cons (pe_tup (pa_cons pe_int (pa_cons pe_int pa_nil))) (pa_cons (pe_tup (pa_cons pe_int (pa_cons pe_int pa_nil))) pa_nil))) pa_nil))) pa_nil))))))
      (pss_cons (ps_set (i := 6) scLByHandRight.nd rfl (Or.inl rfl) (pe_op op_cat (pv 6) (pe_lst (pa_cons (pe_revT (pv 7)) (pa_cons (pe_tup (pa_cons (pe_tup (pa_cons pe_int (pa_cons (pv 0) pa_nil))) (pa_cons (pe_tup (pa_cons pe_int (pa_cons (pv 0) pa_nil))) (pa_cons (pe_tup (pa_cons pe_int (pa_cons (pv 0) pa_nil))) pa_nil)))) (pa_cons (pe_tup (pa_cons (pe_tup (pa_cons pe_int (pa_cons (pv 0) pa_nil))) (pa_cons (pe_tup (pa_cons pe_int (pa_cons (pv 0) pa_nil))) (pa_cons (pe_tup (pa_cons pe_int (pa_cons (pv 0) pa_nil))) pa_nil)))) pa_nil))))))
      (pss_cons (ps_set (i := 5) scLByHandRight.nd rfl (Or.inl rfl) (pe_op op_cat (pv 5) (pe_lst (pa_cons (pe_call G6 hr rfl T.gIsSameWith T.FIsSameWith.kp T.bIsSameWith .nil pass0 (pa_cons (pe_tup (pa_cons (pe_tup (pa_cons pe_int (pa_cons (pv 0) pa_nil))) (pa_cons (pe_tup (pa_cons pe_int (pa_cons (pv 1) pa_nil))) pa_nil))) (pa_cons (pe_tup (pa_cons (pe_tup (pa_cons pe_int (pa_cons (pv 1) pa_nil))) (pa_cons (pe_tup (pa_cons pe_int (pa_cons (pv 0) pa_nil))) pa_nil))) (pa_cons (pe_tup (pa_cons (pe_tup (pa_cons pe_int (pa_cons pe_int pa_nil))) pa_nil)) pa_nil)))) (pa_cons (pe_call G6 hr rfl T.gIsSameWith T.FIsSameWith.kp T.bIsSameWith .nil pass0 (pa_cons (pe_tup (pa_cons (pe_tup (pa_cons pe_int (pa_cons (pv 0) pa_nil))) (pa_cons (pe_tup (pa_cons pe_int (pa_cons (pv 3) pa_nil))) (pa_cons (pe_tup (pa_cons pe_int (pa_cons (pv 2) pa_nil))) pa_nil)))) (pa_cons (pe_tup pa_nil) (pa_cons (pe_tup pa_nil) pa_nil)))) pa_nil)))))
      (pss_cons (ps_set (i := 5) scLByHandRight.nd rfl (Or.inl rfl) (pe_op op_cat (pv 5) (pe_lst (pa_cons (pe_call G6 hr rfl T.gIsSameWith T.FIsSameWith.kp T.bIsSameWith .nil pass0 (pa_cons (pe_tup (pa_cons (pe_tup (pa_cons pe_int (pa_cons (pv 0) pa_nil))) (pa_cons (pe_tup (pa_cons pe_int (pa_cons (pv 0) pa_nil))) (pa_cons (pe_tup (pa_cons pe_int (pa_cons (pv 2) pa_nil))) (pa_cons (pe_tup (pa_cons pe_int (pa_cons (pv 2) pa_nil))) pa_nil))))) (pa_cons (pe_tup pa_nil) (pa_cons (pe_tup (pa_cons (pe_tup (pa_cons pe_int (pa_cons pe_int pa_nil))) (pa_cons (pe_tup (pa_cons pe_int (pa_cons pe_int pa_nil))) pa_nil))) pa_nil)))) (pa_cons (pe_call G3 hr rfl T.gNormalWith T.FNormalWith.kp T.bNormalWith .nil pass0 (pa_cons (pe_tup pa_nil) (pa_cons (pe_tup (pa_cons (pe_tup (pa_cons pe_int (pa_cons pe_int pa_nil))) pa_nil)) pa_nil))) pa_nil)))))
      (pss_one (ps_ret (pe_call G7 hr rfl T.gLSame T.FLSame.kp T.bLSame .nil pass0 (pa_cons (pv 5) (pa_cons (pe_op op_cat (pv 6) (pe_lst (pa_cons pe_bl (pa_cons pe_bl (pa_cons pe_bl (pa_cons (pe_tup pa_nil) pa_nil)))))) pa_nil))))))))))))), ?_⟩
    refine asg_mkg (K := K) (d := .tuple [.tuple [.int 1, .int 1], .tuple [.int 1, .int 2], .tuple [.int (-1), .int 1], .tuple [.int 0, .int 1]]) (mk_tup (mas_cons (mk_tup (mas_cons mk_int (mas_cons mk_int mas_nil)) (by decide)) (mas_cons (mk_tup (mas_cons mk_int (mas_cons mk_int mas_nil)) (by decide)) (mas_cons (mk_tup (mas_cons mk_neg (mas_cons mk_int mas_nil)) (by decide)) (mas_cons (mk_tup (mas_cons mk_int (mas_cons mk_int mas_nil)) (by decide)) mas_nil)))) (by decide)) fun v H1 e1 hv => ?_
    rw [← f6, ← f3, ← fm6, ← f0] at hv
    obtain ⟨a, xs, rfl, hx, hd⟩ := hv.tup_inv
    obtain ⟨x0, x1, x2, x3, rfl, h0, h1, h2, h3⟩ := four_inv hd
    refine ⟨a, _, rfl, hx, rfl, _, _, rfl, _, _, rfl, _, _, rfl, _, _, rfl, rfl, ?_⟩
    refine asg_mk (d := rD three) (mk_tup (mas_cons (mk_tup (mas_cons mk_int (mas_cons (mk_var rfl h0) mas_nil)) (by decide)) (mas_cons (mk_tup (mas_cons mk_int (mas_cons (mk_var rfl h1) mas_nil)) (by decide)) (mas_cons (mk_tup (mas_cons mk_int (mas_cons (mk_var rfl h0) mas_nil)) (by decide)) (mas_cons (mk_tup (mas_cons mk_int (mas_cons (mk_var rfl h2) mas_nil)) (by decide)) mas_nil)))) (by decide)) fun v2 H2 e2 hh => ?_
    have h0 := Dp.same e2 _ _ h0
    have h1 := Dp.same e2 _ _ h1
    have h2 := Dp.same e2 _ _ h2
    have h3 := Dp.same e2 _ _ h3
    have h4 := hh
    have e1 := e1.trans e2
    refine asg_ml (ds := [rD [(2, 3), (0, 6)], rD three, rD [(1, 6), (0, 6), (1, -6), (2, 3)], rD three]) (ml_lst (mas_cons (mk_nw (row := three) (L := [(0, 1), (1, 2)]) (mk_var rfl h4) (mk_tup (mas_cons (mk_tup (mas_cons mk_int (mas_cons mk_int mas_nil)) (by decide)) (mas_cons (mk_tup (mas_cons mk_int (mas_cons mk_int mas_nil)) (by decide)) mas_nil)) (by decide)) (by decide) (by decide) (prop1_of (by decide)) by1) (mas_cons (mk_nw (row := three) (L := [(0, 1)]) (mk_var rfl h4) (mk_tup (mas_cons (mk_tup (mas_cons mk_int (mas_cons mk_int mas_nil)) (by decide)) mas_nil) (by decide)) (by decide) (by decide) (prop1_of (by decide)) by2) (mas_cons (mk_nw (row := three) (L := [(0, 2), (1, 2)]) (mk_var rfl h4) (mk_tup (mas_cons (mk_tup (mas_cons mk_int (mas_cons mk_int mas_nil)) (by decide)) (mas_cons (mk_tup (mas_cons mk_int (mas_cons mk_int mas_nil)) (by decide)) mas_nil)) (by decide)) (by decide) (by decide) (prop1_of (by decide)) by3) (mas_cons (mk_nw (row := three) (L := []) (mk_var rfl h4) (mk_tup mas_nil (by decide)) (by decide) (by decide) (prop1_of (by decide)) by4) mas_nil)))) (by decide)) fun v3 y3 H3 e3 ll hh => ?_
    have h0 := Dp.same e3 _ _ h0
    have h1 := Dp.same e3 _ _ h1
    have h2 := Dp.same e3 _ _ h2
    have h3 := Dp.same e3 _ _ h3
    have h4 := Dp.same e3 _ _ h4
    have l5 := ll
    have d5 := hh
    have e1 := e1.trans e3
    refine asg_ml (ds := [rD [(2, 3), (0, 6)], rD three, rD [(1, 6), (0, 6), (1, -6), (2, 3)], rD three]) (ml_lst (mas_cons (mk_tup (mas_cons (mk_tup (mas_cons mk_int (mas_cons (mk_var rfl h1) mas_nil)) (by decide)) (mas_cons (mk_tup (mas_cons mk_int (mas_cons (mk_var rfl h0) mas_nil)) (by decide)) mas_nil)) (by decide)) (mas_cons (mk_var rfl h4) (mas_cons (mk_tup (mas_cons (mk_tup (mas_cons mk_int (mas_cons (mk_var rfl h0) mas_nil)) (by decide)) (mas_cons (mk_tup (mas_cons mk_int (mas_cons (mk_var rfl h0) mas_nil)) (by decide)) (mas_cons (mk_tup (mas_cons mk_int (mas_cons (mk_var rfl h2) mas_nil)) (by decide)) (mas_cons (mk_tup (mas_cons mk_int (mas_cons (mk_var rfl h1) mas_nil)) (by decide)) mas_nil)))) (by decide)) (mas_cons (mk_var rfl h4) mas_nil)))) (by decide)) fun v4 y4 H4 e4 ll hh => ?_
    have h0 := Dp.same e4 _ _ h0
    have h1 := Dp.same e4 _ _ h1
    have h2 := Dp.same e4 _ _ h2
    have h3 := Dp.same e4 _ _ h3
    have h4 := Dp.same e4 _ _ h4
    have l5 := e4 _ _ l5
    have d5 := DpAll.same e4 _ _ d5
    have l6 := ll
    have d6 := hh
    have e1 := e1.trans e4
    refine asg_mk (d := rD wait) (mk_tup (mas_cons (mk_tup (mas_cons mk_int (mas_cons (mk_var rfl h0) mas_nil)) (by decide)) (mas_cons (mk_tup (mas_cons mk_int (mas_cons (mk_var rfl h0) mas_nil)) (by decide)) (mas_cons (mk_tup (mas_cons mk_int (mas_cons (mk_var rfl h0) mas_nil)) (by decide)) mas_nil))) (by decide)) fun v5 H5 e5 hh => ?_
    have h0 := Dp.same e5 _ _ h0
    have h1 := Dp.same e5 _ _ h1
    have h2 := Dp.same e5 _ _ h2
    have h3 := Dp.same e5 _ _ h3
    have h4 := Dp.same e5 _ _ h4
    have l5 := e5 _ _ l5
    have d5 := DpAll.same e5 _ _ d5
    have l6 := e5 _ _ l6
    have d6 := DpAll.same e5 _ _ d6
    have h7 := hh
    have e1 := e1.trans e5
    refine asg_ml (ds := [rD [(2, 3), (0, 6)], rD three, rD [(1, 6), (0, 6), (1, -6), (2, 3)], rD three, rD wait.reverse, rD [(2, 6), (0, 6), (1, 6)], rD [(0, 6), (2, 6), (1, 6)]]) (ml_cat (ml_var rfl l5 d5) (ml_lst (mas_cons (mk_nw (row := wait) (L := [(0, 1), (0, 2), (1, 2)]) (mk_var rfl h7) (mk_tup (mas_cons (mk_tup (mas_cons mk_int (mas_cons mk_int mas_nil)) (by decide)) (mas_cons (mk_tup (mas_cons mk_int (mas_cons mk_int mas_nil)) (by decide)) (mas_cons (mk_tup (mas_cons mk_int (mas_cons mk_int mas_nil)) (by decide)) mas_nil))) (by decide)) (by decide) (by decide) (prop1_of (by decide)) by5) (mas_cons (mk_nw (row := wait) (L := [(0, 1)]) (mk_var rfl h7) (mk_tup (mas_cons (mk_tup (mas_cons mk_int (mas_cons mk_int mas_nil)) (by decide)) mas_nil) (by decide)) (by decide) (by decide) (prop1_of (by decide)) by6) (mas_cons (mk_nw (row := wait) (L := [(0, 1), (0, 2)]) (mk_var rfl h7) (mk_tup (mas_cons (mk_tup (mas_cons mk_int (mas_cons mk_int mas_nil)) (by decide)) (mas_cons (mk_tup (mas_cons mk_int (mas_cons mk_int mas_nil)) (by decide)) mas_nil)) (by decide)) (by decide) (by decide) (prop1_of (by decide)) by7) mas_nil))) (by decide)) (by decide)) fun v6 y6 H6 e6 ll hh => ?_
    have h0 := Dp.same e6 _ _ h0
    have h1 := Dp.same e6 _ _ h1
    have h2 := Dp.same e6 _ _ h2
    have h3 := Dp.same e6 _ _ h3
    have h4 := Dp.same e6 _ _ h4
    have h7 := Dp.same e6 _ _ h7
    have l6 := e6 _ _ l6
    have d6 := DpAll.same e6 _ _ d6
    have l5 := ll
    have d5 := hh
    have e1 := e1.trans e6
    refine asg_ml (ds := [rD [(2, 3), (0, 6)], rD three, rD [(1, 6), (0, 6), (1, -6), (2, 3)], rD three, rD wait.reverse, rD [(2, 6), (0, 6), (1, 6)], rD [(0, 6), (2, 6), (1, 6)]]) (ml_cat (ml_var rfl l6 d6) (ml_lst (mas_cons (show Mks K _ _ _ (rD wait.reverse) from mk_rev (ds := wait.map pD) (mk_var rfl h7)) (mas_cons (mk_tup (mas_cons (mk_tup (mas_cons mk_int (mas_cons (mk_var rfl h0) mas_nil)) (by decide)) (mas_cons (mk_tup (mas_cons mk_int (mas_cons (mk_var rfl h0) mas_nil)) (by decide)) (mas_cons (mk_tup (mas_cons mk_int (mas_cons (mk_var rfl h0) mas_nil)) (by decide)) mas_nil))) (by decide)) (mas_cons (mk_tup (mas_cons (mk_tup (mas_cons mk_int (mas_cons (mk_var rfl h0) mas_nil)) (by decide)) (mas_cons (mk_tup (mas_cons mk_int (mas_cons (mk_var rfl h0) mas_nil)) (by decide)) (mas_cons (mk_tup (mas_cons mk_int (mas_cons (mk_var rfl h0) mas_nil)) (by decide)) mas_nil))) (by decide)) mas_nil))) (by decide)) (by decide)) fun v7 y7 H7 e7 ll hh => ?_
    have h0 := Dp.same e7 _ _ h0
    have h1 := Dp.same e7 _ _ h1
    have h2 := Dp.same e7 _ _ h2
    have h3 := Dp.same e7 _ _ h3
    have h4 := Dp.same e7 _ _ h4
    have h7 := Dp.same e7 _ _ h7
    have l5 := e7 _ _ l5
    have d5 := DpAll.same e7 _ _ d5
    have l6 := ll
    have d6 := hh
    have e1 := e1.trans e7
    refine asg_ml (ds := [rD [(2, 3), (0, 6)], rD three, rD [(1, 6), (0, 6), (1, -6), (2, 3)], rD three, rD wait.reverse, rD [(2, 6), (0, 6), (1, 6)], rD [(0, 6), (2, 6), (1, 6)], .bool true, .bool true]) (ml_cat (ml_var rfl l5 d5) (ml_lst (mas_cons (mk_sw (row := [(3, 6), (1, 3)]) (oth := [(1, 3), (3, 6)]) (L := [(1, 3)]) (mk_tup (mas_cons (mk_tup (mas_cons mk_int (mas_cons (mk_var rfl h0) mas_nil)) (by decide)) (mas_cons (mk_tup (mas_cons mk_int (mas_cons (mk_var rfl h1) mas_nil)) (by decide)) mas_nil)) (by decide)) (mk_tup (mas_cons (mk_tup (mas_cons mk_int (mas_cons (mk_var rfl h1) mas_nil)) (by decide)) (mas_cons (mk_tup (mas_cons mk_int (mas_cons (mk_var rfl h0) mas_nil)) (by decide)) mas_nil)) (by decide)) (mk_tup (mas_cons (mk_tup (mas_cons mk_int (mas_cons mk_int mas_nil)) (by decide)) mas_nil) (by decide)) (by decide) (by decide) (by decide) (prop1_of (by decide)) (decide_eq_true by8)) (mas_cons (mk_sw (row := [(0, 6), (2, 0), (0, -6)]) (oth := []) (L := []) (mk_tup (mas_cons (mk_tup (mas_cons mk_int (mas_cons (mk_var rfl h0) mas_nil)) (by decide)) (mas_cons (mk_tup (mas_cons mk_int (mas_cons (mk_var rfl h3) mas_nil)) (by decide)) (mas_cons (mk_tup (mas_cons mk_int (mas_cons (mk_var rfl h2) mas_nil)) (by decide)) mas_nil))) (by decide)) (mk_tup mas_nil (by decide)) (mk_tup mas_nil (by decide)) (by decide) (by decide) (by decide) (prop1_of (by decide)) (decide_eq_true by9)) mas_nil)) (by decide)) (by decide)) fun v8 y8 H8 e8 ll hh => ?_
    have h0 := Dp.same e8 _ _ h0
    have h1 := Dp.same e8 _ _ h1
    have h2 := Dp.same e8 _ _ h2
    have h3 := Dp.same e8 _ _ h3
    have h4 := Dp.same e8 _ _ h4
    have h7 := Dp.same e8 _ _ h7
    have l6 := e8 _ _ l6
    have d6 := DpAll.same e8 _ _ d6
    have l5 := ll
    have d5 := hh
    have e1 := e1.trans e8
    refine asg_ml (ds := [rD [(2, 3), (0, 6)], rD three, rD [(1, 6), (0, 6), (1, -6), (2, 3)], rD three, rD wait.reverse, rD [(2, 6), (0, 6), (1, 6)], rD [(0, 6), (2, 6), (1, 6)], .bool true, .bool true, .bool false, rD []]) (ml_cat (ml_var rfl l5 d5) (ml_lst (mas_cons (mk_sw (row := [(0, 6), (1, 6), (0, -6), (1, -6)]) (oth := []) (L := [(0, 2), (1, 2)]) (mk_tup (mas_cons (mk_tup (mas_cons mk_int (mas_cons (mk_var rfl h0) mas_nil)) (by decide)) (mas_cons (mk_tup (mas_cons mk_int (mas_cons (mk_var rfl h0) mas_nil)) (by decide)) (mas_cons (mk_tup (mas_cons mk_int (mas_cons (mk_var rfl h2) mas_nil)) (by decide)) (mas_cons (mk_tup (mas_cons mk_int (mas_cons (mk_var rfl h2) mas_nil)) (by decide)) mas_nil)))) (by decide)) (mk_tup mas_nil (by decide)) (mk_tup (mas_cons (mk_tup (mas_cons mk_int (mas_cons mk_int mas_nil)) (by decide)) (mas_cons (mk_tup (mas_cons mk_int (mas_cons mk_int mas_nil)) (by decide)) mas_nil)) (by decide)) (by decide) (by decide) (by decide) (prop1_of (by decide)) (decide_eq_false by10)) (mas_cons (mk_nw (row := []) (L := [(0, 1)]) (mk_tup mas_nil (by decide)) (mk_tup (mas_cons (mk_tup (mas_cons mk_int (mas_cons mk_int mas_nil)) (by decide)) mas_nil) (by decide)) (by decide) (by decide) (prop1_of (by decide)) by11) mas_nil)) (by decide)) (by decide)) fun v9 y9 H9 e9 ll hh => ?_
    have h0 := Dp.same e9 _ _ h0
    have h1 := Dp.same e9 _ _ h1
    have h2 := Dp.same e9 _ _ h2
    have h3 := Dp.same e9 _ _ h3
    have h4 := Dp.same e9 _ _ h4
    have h7 := Dp.same e9 _ _ h7
    have l6 := e9 _ _ l6
    have d6 := DpAll.same e9 _ _ d6
    have l5 := ll
    have d5 := hh
    have e1 := e1.trans e9
    refine ret_same (d := .list [rD [(2, 3), (0, 6)], rD three, rD [(1, 6), (0, 6), (1, -6), (2, 3)], rD three, rD wait.reverse, rD [(2, 6), (0, 6), (1, 6)], rD [(0, 6), (2, 6), (1, 6)], .bool true, .bool true, .bool false, rD []]) (ml_mk (ml_var rfl l5 d5)) (ml_mk (ml_cat (ml_var rfl l6 d6) (ml_lst (mas_cons mk_bl (mas_cons mk_bl (mas_cons mk_bl (mas_cons (mk_tup mas_nil (by decide)) mas_nil)))) (by decide)) (by decide))) ?_ ?_ fun H' e => k H' (e1.trans e)
    · decide
    · decide
end
end K26
end
section
set_option Elab.async false
set_option linter.all false
set_option maxRecDepth 100000
set_option maxHeartbeats 400000
/-! _law_right, law -/
namespace K26
open PySem PySem.Spec PyProof.Rows L2
def full : List (Int × Int) := [(0, 1), (0, 2), (1, 2)]
theorem full_prop : Prop1 full := prop1_of (by decide)
theorem rising_full {L : List (Int × Int)} (h : Rising 3 L) : ∀ p ∈ L, p ∈ full := fun p hp => by
  obtain ⟨h1, h2, h3⟩ := h p hp
  obtain ⟨a, b⟩ := p
  simp only at h1 h2 h3
  have h4 : (a = 0 ∧ b = 1) ∨ (a = 0 ∧ b = 2) ∨ (a = 1 ∧ b = 2) := by omega
  rcases h4 with ⟨rfl, rfl⟩ | ⟨rfl, rfl⟩ | ⟨rfl, rfl⟩ <;> decide
theorem rising_prop {n : Nat} {L : List (Int × Int)} (h : Rising n L) : Prop1 L := prop1_of fun p hp => (h p hp).2.1
section
variable {K : PySem.W.Frag} {H0 : Hp} {σ : L2.St}
/-- shortest(a, b)[0] -/
theorem mk_first {ta tb : TE} {row : Rw} {L : List (Int × Int)} (h : Mks K H0 ta σ (rD row)) (g : Mks K H0 tb σ (mD L)) (hp : Prop1 L) (hl : row.length ≤ 4) : Mks K H0 (tOp (rIxL K) (tCall (spShortest K) [] E0 (tCons ta (tCons tb tNil))) (tC (.int 0))) σ (rD (nf (fr L) row)) := fun H Q e k =>
  h H _ e fun v H1 e1 hv => g H1 _ (e.trans e1) fun u H2 e2 hu => ⟨v, u, row, L, rfl, Dp.same e2 _ _ hv, hu, hp, hl, fun p H3 S e3 hp3 hS hnd hall hhd => by
    obtain ⟨t, rfl⟩ := hhd
    obtain ⟨ss, hss, hds⟩ := hS
    rw [List.map_cons] at hds
    cases hds with
    | cons h1 h2 => exact ⟨p, _, _, _, rfl, rfl, SqL.of hss, atI_nat (j := 0) rfl, k _ H3 ((e1.trans e2).trans e3) h1⟩⟩
theorem mk_eq {ta tb : TE} {r s : Rw} (h : Mks K H0 ta σ (rD r)) (g : Mks K H0 tb σ (rD s)) : Mks K H0 (tOp (rEqD K) ta tb) σ (.bool (decide (r = s))) := fun H Q e k =>
  h H _ e fun v H1 e1 hv => g H1 _ (e.trans e1) fun u H2 e2 hu => ⟨_, _, Dp.same e2 _ _ hv, hu, shaped_r _, shaped_r _, by
    rw [eqv_r]
    exact k _ H2 (e1.trans e2) (.bl _)⟩
/-- a and (not b), never true -/
theorem mk_andnot {ta tb : TE} {a b : Bool} (h : Mks K H0 ta σ (.bool a)) (g : Mks K H0 tb σ (.bool b)) (hab : a = true → b = true) : Mks K H0 (tAndV ta (tNotV tb)) σ (.bool false) := fun H Q e k =>
  h H _ e fun v H1 e1 hv => ⟨a, hv.bl_inv, ite2 (fun q => g H1 _ (e.trans e1) fun u H2 e2 hu => ⟨b, hu.bl_inv, by
    rw [hab q]
    exact k _ H2 (e1.trans e2) (.bl _)⟩) fun q => k _ H1 e1 (.bl _)⟩
end
section
variable {P : Program} {w : World} {K : PySem.W.Frag} {mg : Str → Option Value} {base : Heap}
def spRight (K : PySem.W.Frag) : Sp := fun vs H Q _ => ∃ (l : Addr), vs = [.ref l] ∧ UrnAt H l 0 ∧ ∀ H', But l H H' → Q (.bl true) H'
theorem ok_right (T : Tx K mg) : FnOk P w K mg base CX0 10 T.fLRight T.fdLRight ["_law_urn"] (spRight K) := by
  have G1 : FnOk P w K mg base CX0 9 T.fLFlows T.fdLFlows ["_law_urn", "_law_wide_so", "_law_most_so"] (spFlows K) := (ok_flows T).mono (by decide)
  have G2 : FnOk P w K mg base CX0 9 T.fLLets T.fdLLets ["_law_urn", "_law_wide_so"] (spLets K) := (ok_lets T).mono (by decide)
  have G3 : FnOk P w K mg base CX0 9 T.fLCaseRight T.fdLCaseRight ["_law_urn", "_law_flows_so", "_law_lets_so"] (spCase K) := ok_caseRight T
  have G4 : FnOk P w K mg base CX0 9 T.fLTake T.fdLTake ["_law_urn", "_law_low_so"] (spTake K) := (ok_take T).mono (by decide)
  have G5 : FnOk P w K mg base CX0 9 T.fLShortest T.fdLShortest ["_law_flows_so", "_law_lets_so"] (spShortest K) := (ok_shortest T).mono (by decide)
  have G6 : FnOk P w K mg base CX0 9 T.fIsSameWith T.fdIsSameWith ["row", "other", "meets"] (spSameW K) := (ok_isSameWith T).mono (by decide)
  have G7 : FnOk P w K mg base CX0 9 T.fIsSame T.fdIsSame ["row", "other"] (spIsSame K) := (ok_isSame T).mono (by decide)
  have G8 : FnOk P w K mg base CX0 9 T.fLSame T.fdLSame ["_law_near", "_law_due"] (spSame K 6) := (ok_same T 6).mono (by decide)
  refine ok0 T.FLRight scLRight (fun vs H Q E h => ?_) (fun cdv A outer s H vs Q E hr h => ?_)
  · obtain ⟨l, rfl, _⟩ := h
    rfl
  · obtain ⟨l, rfl, hu, k⟩ := h
    refine ⟨_, pss_cons (ps_par (i := 1) (j := 2) (by rfl) scLRight.nd rfl rfl (by decide) rfl rfl (pa_cons (pe_call G1 hr rfl T.gLFlows T.FLFlows.kp T.bLFlows .nil pass0 (pa_cons (pv 0) (pa_cons pe_int (pa_cons pe_int pa_nil)))) (pa_cons (pe_call G2 hr rfl T.gLLets T.FLLets.kp T.bLLets .nil pass0 (pa_cons (pv 0) (pa_cons pe_int pa_nil))) pa_nil)) (by rfl))
      (pss_cons (ps_if (pt_not (pt_val (pe_call G3 hr rfl T.gLCaseRight T.FLCaseRight.kp T.bLCaseRight .nil pass0 (pa_cons (pv 0) (pa_cons (pv 1) (pa_cons (pv 2) pa_nil)))))) (pss_one ps_never) pss_nil)
      (pss_cons (ps_set (i := 3) scLRight.nd rfl (Or.inl rfl) (pe_ifExp (pt_cmpR op_gt (pe_call G4 hr rfl T.gLTake T.FLTake.kp T.bLTake .nil pass0 (pa_cons (pv 0) (pa_cons pe_int pa_nil))) pe_int (nomark _))
        (pe_call G1 hr rfl T.gLFlows T.FLFlows.kp T.bLFlows .nil pass0 (pa_cons (pv 0) (pa_cons pe_int (pa_cons pe_int pa_nil))))
        (pe_op op_catA (pe_slice sl_tupA (pv 1) (po_some pe_int) po_none) (pe_slice sl_tupA (pv 1) po_none (po_some pe_int)))))
      (pss_cons (ps_set (i := 4) scLRight.nd rfl (Or.inl rfl) (pe_cmpR (op_eqD (Room.u64 hr)) (pe_ix ix_list (pe_call G5 hr rfl T.gLShortest T.FLShortest.kp T.bLShortest .nil pass0 (pa_cons (pv 1) (pa_cons (pv 2) pa_nil))) pe_int (fun _ _ => rfl)) (pe_ix ix_list (pe_call G5 hr rfl T.gLShortest T.FLShortest.kp T.bLShortest .nil pass0 (pa_cons (pv 3) (pa_cons (pv 2) pa_nil))) pe_int (fun _ _ => rfl)) (nomark _)))
      (pss_cons (ps_set (i := 5) scLRight.nd rfl (Or.inl rfl) (pe_tup (pa_cons (pe_tup (pa_cons pe_int (pa_cons pe_int pa_nil))) (pa_cons (pe_tup (pa_cons pe_int (pa_cons pe_int pa_nil))) (pa_cons (pe_tup (pa_cons pe_int (pa_cons pe_int pa_nil))) pa_nil)))))
      (pss_cons (ps_set (i := 6) scLRight.nd rfl (Or.inl rfl) (pe_cmpR (op_eqD (Room.u64 hr)) (pe_ix ix_list (pe_call G5 hr rfl T.gLShortest T.FLShortest.kp T.bLShortest .nil pass0 (pa_cons (pv 1) (pa_cons (pv 5) pa_nil))) pe_int (fun _ _ => rfl)) (pe_ix ix_list (pe_call G5 hr rfl T.gLShortest T.FLShortest.kp T.bLShortest .nil pass0 (pa_cons (pv 3) (pa_cons (pv 5) pa_nil))) pe_int (fun _ _ => rfl)) (nomark _)))
      (pss_cons (ps_set (i := 7) scLRight.nd rfl (Or.inl rfl) (pe_lst (pa_cons (pe_call G6 hr rfl T.gIsSameWith T.FIsSameWith.kp T.bIsSameWith .nil pass0 (pa_cons (pv 1) (pa_cons (pv 3) (pa_cons (pv 2) pa_nil))))
        (pa_cons (pe_call G6 hr rfl T.gIsSameWith T.FIsSameWith.kp T.bIsSameWith .nil pass0 (pa_cons (pv 1) (pa_cons (pv 3) (pa_cons (pv 5) pa_nil)))) (pa_cons (pe_and (pv 4) (pe_one (pe_not (pv 6)))) pa_nil)))))
      (pss_cons (ps_set (i := 7) scLRight.nd rfl (Or.inl rfl) (pe_op op_cat (pv 7) (pe_lst (pa_cons (pe_and (pe_call G7 hr rfl T.gIsSame T.FIsSame.kp T.bIsSame .nil pass0 (pa_cons (pv 1) (pa_cons (pv 3) pa_nil))) (pe_one (pe_not (pv 4))))
        (pa_cons (pe_call G6 hr rfl T.gIsSameWith T.FIsSameWith.kp T.bIsSameWith .nil pass0 (pa_cons (pv 3) (pa_cons (pv 1) (pa_cons (pv 2) pa_nil)))) pa_nil)))))
      (pss_one (ps_ret (pe_call G8 hr rfl T.gLSame T.FLSame.kp T.bLSame .nil pass0 (pa_cons (pv 7) (pa_cons (pe_lst (pa_cons (pv 4) (pa_cons (pv 6) (pa_cons pe_bl (pa_cons pe_bl (pa_cons (pv 4) pa_nil)))))) pa_nil)))))))))))), ?_⟩
    refine ⟨_, rfl, l, 3, 4, 0, rfl, hu, by decide, by decide, by decide, by decide, fun v row H1 b1 u1 hv hlen hok => ?_⟩
    refine ⟨_, rfl, l, 3, 10, rfl, u1, by decide, by decide, fun m L H2 b2 u2 hm hLl hris => ⟨_, _, rfl, ?_⟩⟩
    have hL := rising_prop hris
    have C := fr_com hL
    have CF := fr_com full_prop
    have hv2 := Dp.kpt (u1.kpt b2) _ _ (tupD_r row) hv
    refine ⟨_, rfl, _, rfl, _, rfl, l, v, m, 19, row, L, rfl, u2, by decide, hv2, hm, hL, hLl, hlen, fun H3 b3 u3 => ⟨true, rfl, ?_⟩⟩
    have hv3 := Dp.kpt (u2.kpt b3) _ _ (tupD_r row) hv2
    have hm3 := Dp.kpt (u2.kpt b3) _ _ (tupD_m L) hm
    refine ⟨_, rfl, l, 3, 22, rfl, u3, by decide, by decide, by decide, fun r H4 b4 u4 hr4 => ⟨_, _, rfl, rfl, _, rfl, ?_⟩⟩
    have hv4 := Dp.kpt (u3.kpt b4) _ _ (tupD_r row) hv3
    have hm4 := Dp.kpt (u3.kpt b4) _ _ (tupD_m L) hm3
    have b04 := ((b1.trans b2).trans b3).trans b4
    refine ite2 (fun _ => ?_) (fun _ => ?_)
    refine ⟨_, rfl, l, 3, 3, 23, rfl, u4, by decide, by decide, by decide, by decide, fun vo oth H5 b5 u5 hvo hol3 hook => ?_⟩
    have hol : oth.length ≤ 4 := by omega
    have hv5 := Dp.kpt (u4.kpt b5) _ _ (tupD_r row) hv4
    have hm5 := Dp.kpt (u4.kpt b5) _ _ (tupD_m L) hm4
    have b05 := b04.trans b5
    rotate_left
    refine ⟨_, rfl, 1, rfl, drop_row 1 hv4 rfl fun w1 H5 e5 hw1 => ?_⟩
    refine ⟨_, rfl, 1, rfl, take_row (i := 1) rfl (Dp.same e5 _ _ hv4) fun w2 H6 e6 hw2 => ?_⟩
    refine cat_row (Dp.same e6 _ _ hw1) hw2 (by rw [List.length_take, List.length_drop]; omega) fun vo H7 e7 hvo => ?_
    have hol : (row.drop 1 ++ row.take 1).length ≤ 4 := by rw [List.length_append, List.length_take, List.length_drop]; omega
    have hv5 := Dp.same ((e5.trans e6).trans e7) _ _ hv4
    have hm5 := Dp.same ((e5.trans e6).trans e7) _ _ hm4
    have b05 := b04.trans (But.of_same ((e5.trans e6).trans e7))
    generalize row.drop 1 ++ row.take 1 = oth at hvo hol
    all_goals
      refine asg_mk (K := K) (d := .bool (decide (nf (fr L) row = nf (fr L) oth))) (mk_eq (mk_first (mk_var rfl hv5) (mk_var rfl hm5) hL hlen) (mk_first (mk_var rfl hvo) (mk_var rfl hm5) hL hol)) fun vs H8 e8 hsm => ?_
      have hv8 := Dp.same e8 _ _ hv5
      have hm8 := Dp.same e8 _ _ hm5
      have ho8 := Dp.same e8 _ _ hvo
      refine asg_mk (K := K) (d := mD full) (mk_tup (mas_cons (mk_tup (mas_cons mk_int (mas_cons mk_int mas_nil)) (by decide)) (mas_cons (mk_tup (mas_cons mk_int (mas_cons mk_int mas_nil)) (by decide)) (mas_cons (mk_tup (mas_cons mk_int (mas_cons mk_int mas_nil)) (by decide)) mas_nil))) (by decide)) fun vf H9 e9 hf9 => ?_
      have hv9 := Dp.same e9 _ _ hv8
      have hm9 := Dp.same e9 _ _ hm8
      have ho9 := Dp.same e9 _ _ ho8
      have hs9 := Dp.same e9 _ _ hsm
      refine asg_mk (K := K) (d := .bool (decide (nf (fr full) row = nf (fr full) oth))) (mk_eq (mk_first (mk_var rfl hv9) (mk_var rfl hf9) full_prop hlen) (mk_first (mk_var rfl ho9) (mk_var rfl hf9) full_prop hol)) fun va H10 e10 ha10 => ?_
      have hvA := Dp.same e10 _ _ hv9
      have hmA := Dp.same e10 _ _ hm9
      have hoA := Dp.same e10 _ _ ho9
      have hsA := Dp.same e10 _ _ hs9
      have hfA := Dp.same e10 _ _ hf9
      have hmore : decide (nf (fr L) row = nf (fr L) oth) = true → decide (nf (fr full) row = nf (fr full) oth) = true := fun q => decide_eq_true (nf_more C CF (fun p q h => fr_mono (rising_full hris) p q h) (of_decide_eq_true q))
      have hnone : decide (nR row = nR oth) = true → decide (nf (fr L) row = nf (fr L) oth) = true := fun q => decide_eq_true (nf_of_sR (fr_com prop1_nil) C (fun p q h => fr_mono (fun p hp => absurd hp (by simp)) p q h) (of_decide_eq_true q))
      have hsym : decide (nf (fr L) oth = nf (fr L) row) = decide (nf (fr L) row = nf (fr L) oth) := decide_eq_decide.mpr ⟨fun z => z.symm, fun z => z.symm⟩
      refine asg_ml (K := K) (ds := [.bool (decide (nf (fr L) row = nf (fr L) oth)), .bool (decide (nf (fr full) row = nf (fr full) oth)), .bool false]) (ml_lst (mas_cons (mk_sw (mk_var rfl hvA) (mk_var rfl hoA) (mk_var rfl hmA) (by omega) (by omega) (by omega) hL rfl) (mas_cons (mk_sw (mk_var rfl hvA) (mk_var rfl hoA) (mk_var rfl hfA) (by omega) (by omega) (by decide) full_prop rfl) (mas_cons (mk_andnot (mk_var rfl hsA) (mk_var rfl ha10) hmore) mas_nil))) (by simp)) fun lh xh H11 e11 hl11 hd11 => ?_
      have hvB := Dp.same e11 _ _ hvA
      have hmB := Dp.same e11 _ _ hmA
      have hoB := Dp.same e11 _ _ hoA
      have hsB := Dp.same e11 _ _ hsA
      have haB := Dp.same e11 _ _ ha10
      refine asg_ml (K := K) (ds := [.bool (decide (nf (fr L) row = nf (fr L) oth)), .bool (decide (nf (fr full) row = nf (fr full) oth)), .bool false, .bool false, .bool (decide (nf (fr L) row = nf (fr L) oth))]) (ml_cat (ml_var rfl hl11 hd11) (ml_lst (mas_cons (mk_andnot (mk_is (mk_var rfl hvB) (mk_var rfl hoB) (by omega) (by omega) rfl) (mk_var rfl hsB) hnone) (mas_cons (mk_sw (mk_var rfl hoB) (mk_var rfl hvB) (mk_var rfl hmB) (by omega) (by omega) (by omega) hL hsym) mas_nil)) (by simp)) (by simp)) fun lg xg H12 e12 hl12 hd12 => ?_
      have hsC := Dp.same e12 _ _ hsB
      have haC := Dp.same e12 _ _ haB
      have e512 := ((e8.trans e9).trans e10).trans (e11.trans e12)
      refine ret_same (d := .list [.bool (decide (nf (fr L) row = nf (fr L) oth)), .bool (decide (nf (fr full) row = nf (fr full) oth)), .bool false, .bool false, .bool (decide (nf (fr L) row = nf (fr L) oth))]) (ml_mk (ml_var rfl hl12 hd12)) (ml_mk (ml_lst (mas_cons (mk_var rfl hsC) (mas_cons (mk_var rfl haC) (mas_cons mk_bl (mas_cons mk_bl (mas_cons (mk_var rfl hsC) mas_nil))))) (by simp))) ?_ ?_ fun H' e => k H' (b05.trans (But.of_same (e512.trans e)))
      · simp [PyData.depth, PyData.depthAll]
      · simp [okS, okSs]
end
end K26
end
section
set_option Elab.async false
set_option linter.all false
set_option maxRecDepth 100000
set_option maxHeartbeats 400000
/-! law -/
namespace K26
open PySem PySem.Spec PyProof.Rows L2
section
variable {P : Program} {w : World} {K : PySem.W.Frag} {mg : Str → Option Value} {base : Heap}
def spLaw (K : PySem.W.Frag) : Sp := fun vs H Q _ => ∃ (a : Addr) (ns : List Int), vs = [.ref a] ∧ SqL K H a (ns.map V.int) ∧ ns.length ≤ 63 ∧ ∀ H', Q (.bl true) H'
theorem ok_law (T : Tx K mg) : FnOk P w K mg base CX0 40 T.fLaw T.fdLaw ["_law_script"] (spLaw K) := by
  have G1 : FnOk P w K mg base CX0 39 T.fLByHandRight T.fdLByHandRight [] spTrue := (ok_byHand T).mono (by decide)
  have G2 : FnOk P w K mg base CX0 39 T.fLCells T.fdLCells ["_law_script", "_law_roof_so"] (spCells K) := (ok_cells T).mono (by decide)
  have G3 : FnOk P w K mg base CX0 39 T.fLRight T.fdLRight ["_law_urn"] (spRight K) := (ok_right T).mono (by decide)
  have G4 : FnOk P w K mg base CX0 39 T.fLBox T.fdLBox ["_law_script", "_law_k"] (spBox K) := (ok_box T).mono (by decide)
  refine ok0 T.FLaw scLaw (fun vs H Q E h => ?_) (fun cdv A outer s H vs Q E hr h => ?_)
  · obtain ⟨a, ns, rfl, _⟩ := h
    rfl
  · obtain ⟨a, ns, rfl, ha, hn, k⟩ := h
    refine ⟨_, pss_cons (ps_if (pt_not (pt_val (pe_call0 G1 hr rfl T.gLByHandRight T.FLByHandRight.kp T.bLByHandRight .nil pass0))) (pss_one ps_never) pss_nil)
      (pss_cons (ps_set (i := 1) scLaw.nd rfl (Or.inr rfl) (pe_call G2 hr rfl T.gLCells T.FLCells.kp T.bLCells .nil pass0 (pa_cons (pv 0) (pa_cons pe_int pa_nil))))
      (pss_one (ps_ret (pe_callB (cr_all rfl) (by rfl) T.b_all PyProof.Rows.boot_all (pa_cons (pe_lc (own := [("_law_k", 2)]) (g := gName 2) (tt := tYes) (by rfl) scLaw.nd (pi_range1 (by rfl) T.b_range (pa_cons (pe_callB call_len_seq (by rfl) T.b_len PySem.boot_len (pa_cons (pv 1) pa_nil)) pa_nil)) (blkOk_by (N := nLaw) (sc := defScope sLaw) (by decide +kernel))
        (fun _ _ _ _ _ => pg_name (i := 2) scLaw.nd rfl (Or.inl rfl)) (fun _ _ _ _ _ => pts_nil)
        (fun _ _ _ _ _ => pe_call G3 hr rfl T.gLRight T.FLRight.kp T.bLRight .nil pass0 (pa_cons (pe_call G4 hr rfl T.gLBox T.FLBox.kp T.bLBox .nil pass0 (pa_cons (pv 1) (pa_cons (pv 2) pa_nil))) pa_nil))) pa_nil))))), ?_⟩
    refine ⟨rfl, fun H1 e1 => ⟨true, rfl, ?_⟩⟩
    refine ⟨_, rfl, a, ns, rfl, e1.seq ha, hn, fun l H2 ms e2 hl hlv hms => ?_⟩
    refine ⟨_, rfl, l, ms.map V.int, rfl, .inl (SqL.of hlv), _, rfl, by omega, by rw [List.length_map]; omega, fun D hD => ?_⟩
    have ec : (((ms.map V.int).length : Nat) : Int).toNat = ms.length := by rw [Int.toNat_natCast, List.length_map]
    rw [ec]
    refine lc_pure (K := K) (walk_range (lo := 0) (n := ms.length)) (List.replicate ms.length (some (.bool true))) (by rw [List.length_replicate]) (le_line (by omega)) hD (fun _ _ => trivial) YFn.same (fun i x H3 H4 o ho e3 yy acc R Z hR hZ => ?_) fun H3 acc e3 hacc hac => ?_
    · obtain ⟨rfl, rfl⟩ := yy
      have hi : i < ms.length := by
        rcases Nat.lt_or_ge i ms.length with q | q
        · exact q
        · rw [List.getElem?_replicate, if_neg (by omega)] at ho
          cases ho
      have eo : o = some (.bool true) := by
        rw [List.getElem?_replicate, if_pos hi] at ho
        exact (Option.some.inj ho).symm
      refine ⟨rfl, _, rfl, _, rfl, l, ms, i, congrArg (fun z => [V.ref l, V.int z]) (Int.zero_add _), SqL.of (e3 _ _ hlv), by omega, fun u H5 e5 hu hurn => ?_⟩
      refine ⟨u, rfl, hurn, fun H6 b6 => hR _ _ _ eo (fun b o h => b6 b o (ne_of_none h hu) (e5 b o h)) fun H' _ => .bl _⟩
    · have hac2 := dpAll_bools (ns := List.replicate ms.length true) (by
        have h := hac H3 (But.refl _ _)
        rwa [filterMap_rep] at h)
      refine ⟨D, _, rfl, SqL.of (by rw [hacc, hac2]), ?_⟩
      rw [all_true]
      exact k _
end
end K26
end
set_option Elab.async false
set_option linter.all false
set_option maxRecDepth 100000
set_option maxHeartbeats 0
namespace K26
open PySem PySem.Spec PyProof.Rows L2
theorem fn_law {l : PySem.W.OpenLaw} {w : World} {K : PySem.W.Frag} {h : Heap} {mg : Str → Option Value} {fa : Addr} (X : K.In h) (G : h.Ns mainGlobals mg) (hfa : mg "law" = some (.ref fa)) (e : obsKF K = He.valD fnAll) :
    ∃ fd : FuncData, (∀ (s : Shared) (v : Value), BindsTo s fd ⟨[v], []⟩ [("_law_script", v)]) ∧ ∀ base : Heap, K.In base → base.Ns mainGlobals mg → FnOk l.prog w K mg base CX0 40 fa fd ["_law_script"] (spLaw K) := by
  obtain ⟨e1, e2⟩ := obsKF_ok e
  obtain ⟨T⟩ := tx_of X G e1 e2
  have ef := hfa.symm.trans T.gLaw
  cases ef
  have b := L2.FunD.bindsA (ps := ["_law_script"]) T.FLaw fun _ _ _ _ _ _ us hl => match us, hl with | [_], _ => rfl
  exact ⟨T.fdLaw, fun s v => b s [v] rfl, fun base _ _ => ok_law T⟩
theorem walk {l : PySem.W.OpenLaw} {q : Program} {loose : List Str} {XP : (Str → Option Value) → Heap → Prop} {YP : World → Heap → Prop} {d : DefRec} {K : Params → PySem.W.Frag} (hn : l.most = some 63) (hdf : d.params.defaults = [])
    (hY : ∀ (w : World) (h : Heap), YP w h → (K w.params).In h)
    (F : ∀ (w : World) (mg : Str → Option Value) (fa : Addr) (h : Heap), (K w.params).In h → h.Ns mainGlobals mg → mg d.name = some (.ref fa) →
      ∃ fd : FuncData, (∀ (s : Shared) (u : Value), BindsTo s fd ⟨[u], []⟩ [("_law_script", u)]) ∧ ∀ base : Heap, (K w.params).In base → base.Ns mainGlobals mg → FnOk l.prog w (K w.params) mg base CX0 40 fa fd ["_law_script"] (spLaw (K w.params))) :
    PySem.W.WalkO q loose XP YP l.row.toRowW d [] (fun f vs => PySem.call f vs) :=
  L2.walk_of (n := 63) (k := 40) (x := "_law_script") (CX := fun _ => CX0) (sp := fun w => spLaw (K w.params)) hn (by decide) hdf ⟨rfl, by decide, by decide⟩ hY F (fun _ _ a ns hl _ hS => ⟨a, ns, rfl, hS, hl, fun _ => rfl⟩) fun _ _ _ _ _ z => z
end K26
open PySem PySem.W PyProof.Rows
set_option maxRecDepth 100000 in
set_option maxHeartbeats 0 in
theorem PySem.Challenge.cw_everychange_k26_whole_rows_whose_parts_g_holds : PySem.Challenge.rw_everychange_k26_whole_rows_whose_parts_g.Holds := by
  w_on; o_law; k_head; (case hw => w_witness2)
  k_fill
  refine K26.walk (l := PySem.Challenge.rw_everychange_k26_whole_rows_whose_parts_g) rfl rfl (fun w h Y => PySem.W.kIn_of Y) ?F
  case F =>
    intro w mg fa h KX G hmg
    exact K26.fn_law KX G hmg (by kernel_rfl)
