import PyProof.Rows.All
import Wide.All
import OpenK.AllK
import Wide.FinOn
import HandS.ForMost
import HandS.TupAny
import HandS.IsInst
import HandS.Walk
import HandS.DictComp
import HandS.Replace
import HandS.Codes
import KE.GoesMore
import PyProof.ListStr
import PyProof.Rows.StrLawsPart
import PySem.Challenge.RW_rankedjoins_k18_whole_pairs_are_told_by
set_option Elab.async false
set_option maxRecDepth 100000
/-! RJMath: the plain mathematics: joins put together stage by stage, the cut, spines and crossings. Core Lean alone. -/
namespace RJ

/-- neighbors that are the pair p put together into m, from left to right -/
def pt (p : Nat × Nat) (m : Nat) : List Nat → List Nat
  | [] => []
  | [x] => [x]
  | x :: y :: r => if (x, y) = p then m :: pt p m r else x :: pt p m (y :: r)

theorem pt_nil (p : Nat × Nat) (m : Nat) : pt p m [] = [] := by unfold pt; rfl
theorem pt_one (p : Nat × Nat) (m x : Nat) : pt p m [x] = [x] := by unfold pt; rfl
theorem pt_yes {p : Nat × Nat} {m x y : Nat} {r : List Nat} (h : (x, y) = p) : pt p m (x :: y :: r) = m :: pt p m r := by
  rw [pt, if_pos h]
theorem pt_no {p : Nat × Nat} {m x y : Nat} {r : List Nat} (h : ¬ (x, y) = p) : pt p m (x :: y :: r) = x :: pt p m (y :: r) := by
  rw [pt, if_neg h]

/-- an induction that follows pt -/
theorem pt_ind {p : Nat × Nat} {C : List Nat → Prop} (h0 : C []) (h1 : ∀ x, C [x]) (hy : ∀ x y r, (x, y) = p → C r → C (x :: y :: r)) (hn : ∀ x y r, ¬ (x, y) = p → C (y :: r) → C (x :: y :: r)) : ∀ l, C l
  | [] => h0
  | [x] => h1 x
  | x :: y :: r => by
    by_cases h : (x, y) = p
    · exact hy x y r h (pt_ind h0 h1 hy hn r)
    · exact hn x y r h (pt_ind h0 h1 hy hn (y :: r))

theorem pt_length (p : Nat × Nat) (m : Nat) : ∀ l, (pt p m l).length ≤ l.length := by
  refine pt_ind (p := p) ?_ ?_ ?_ ?_
  · rw [pt_nil]; exact Nat.le_refl _
  · intro x; rw [pt_one]; exact Nat.le_refl _
  · intro x y r h ih; rw [pt_yes h]; simp only [List.length_cons]; omega
  · intro x y r h ih; rw [pt_no h]; simp only [List.length_cons] at ih ⊢; omega

theorem pt_ne_nil {p : Nat × Nat} {m : Nat} {l : List Nat} (h : l ≠ []) : pt p m l ≠ [] := by
  match l, h with
  | [x], _ => rw [pt_one]; simp
  | x :: y :: r, _ =>
    by_cases e : (x, y) = p
    · rw [pt_yes e]; simp
    · rw [pt_no e]; simp

/-! ### neighbors -/
/-- x and y are neighbors in the row -/
def Adj (x y : Nat) : List Nat → Prop
  | a :: c :: r => (a = x ∧ c = y) ∨ Adj x y (c :: r)
  | _ => False
theorem Adj.tail {x y a : Nat} {l : List Nat} (h : Adj x y l) : Adj x y (a :: l) := by
  match l, h with
  | c :: r, h => exact .inr h
theorem Adj.of_cons {x y a : Nat} {l : List Nat} (h : Adj x y (a :: l)) : (a = x ∧ ∃ r, l = y :: r) ∨ Adj x y l := by
  match l, h with
  | c :: r, .inl ⟨h1, h2⟩ => exact .inl ⟨h1, r, by rw [h2]⟩
  | c :: r, .inr h => exact .inr h
theorem pt_head {p : Nat × Nat} {m c : Nat} {r : List Nat} : ∃ h t, pt p m (c :: r) = h :: t ∧ (h = m ∨ h = c) := by
  match r with
  | [] => exact ⟨c, [], pt_one .., .inr rfl⟩
  | d :: r =>
    by_cases e : (c, d) = p
    · exact ⟨m, _, pt_yes e, .inl rfl⟩
    · exact ⟨c, _, pt_no e, .inr rfl⟩
/-- what is new in a row behind a join is the new piece alone -/
theorem adj_pt {p : Nat × Nat} {m x y : Nat} (hx : x ≠ m) (hy : y ≠ m) : ∀ l, Adj x y (pt p m l) → Adj x y l ∧ (x, y) ≠ p := by
  refine pt_ind (p := p) ?_ ?_ ?_ ?_
  · intro h; rw [pt_nil] at h; exact absurd h (by simp [Adj])
  · intro a h; rw [pt_one] at h; exact absurd h (by simp [Adj])
  · intro a c r e ih h
    rw [pt_yes e] at h
    rcases h.of_cons with ⟨q, _⟩ | q
    · exact absurd q.symm hx
    · have := ih q
      exact ⟨this.1.tail.tail, this.2⟩
  · intro a c r e ih h
    rw [pt_no e] at h
    rcases h.of_cons with ⟨q, t, ht⟩ | q
    · obtain ⟨h', t', e1, e2⟩ := pt_head (p := p) (m := m) (c := c) (r := r)
      rw [e1] at ht
      injection ht with e3 _
      rcases e2 with e2 | e2
      · exact absurd (e3.symm.trans e2) hy
      · have ec : c = y := e2.symm.trans e3
        subst q; subst ec
        exact ⟨.inl ⟨rfl, rfl⟩, e⟩
    · have := ih q
      exact ⟨this.1.tail, this.2⟩
/-- a pair that is not there changes nothing -/
theorem pt_absent {p : Nat × Nat} {m : Nat} : ∀ l, ¬ Adj p.1 p.2 l → pt p m l = l := by
  refine pt_ind (p := p) ?_ ?_ ?_ ?_
  · intro _; exact pt_nil ..
  · intro _ _; exact pt_one ..
  · intro x y r e _ h
    subst e
    exact absurd (.inl ⟨rfl, rfl⟩) h
  · intro x y r e ih h
    rw [pt_no e, ih fun q => h q.tail]

/-! ### stages -/
/-- the joins of the list ps, the first of which makes b, one after the other -/
def st : Nat → List (Nat × Nat) → List Nat → List Nat
  | _, [], row => row
  | b, p :: ps, row => st (b + 1) ps (pt p b row)
theorem st_append : ∀ (ps qs : List (Nat × Nat)) (b : Nat) (row : List Nat), st b (ps ++ qs) row = st (b + ps.length) qs (st b ps row)
  | [], qs, b, row => rfl
  | p :: ps, qs, b, row => by
    show st (b + 1) (ps ++ qs) (pt p b row) = st (b + (ps.length + 1)) qs (st (b + 1) ps (pt p b row))
    rw [st_append ps qs (b + 1) (pt p b row), show b + (ps.length + 1) = b + 1 + ps.length by omega]
theorem take_succ {α : Type} {l : List α} {i : Nat} {x : α} (h : l[i]? = some x) : l.take (i + 1) = l.take i ++ [x] := by
  rw [List.take_add_one, h]; rfl
/-- the row behind the first r joins -/
def S (b : Nat) (ps : List (Nat × Nat)) (r : Nat) (row : List Nat) : List Nat := st b (ps.take r) row
theorem S_zero (b : Nat) (ps : List (Nat × Nat)) (row : List Nat) : S b ps 0 row = row := rfl
theorem S_succ {b : Nat} {ps : List (Nat × Nat)} {r : Nat} {p : Nat × Nat} (h : ps[r]? = some p) (row : List Nat) : S b ps (r + 1) row = pt p (b + r) (S b ps r row) := by
  have hr : r < ps.length := (List.getElem?_eq_some_iff.mp h).1
  unfold S
  rw [take_succ h, st_append, List.length_take, Nat.min_eq_left (Nat.le_of_lt hr)]
  rfl
theorem S_all (b : Nat) (ps : List (Nat × Nat)) (row : List Nat) : S b ps ps.length row = st b ps row := by
  unfold S; rw [List.take_length]
theorem S_append {b : Nat} {ps qs : List (Nat × Nat)} {r : Nat} (h : r ≤ ps.length) (row : List Nat) : S b (ps ++ qs) r row = S b ps r row := by
  unfold S; rw [List.take_append_of_le_length h]
theorem S_nil (b : Nat) (ps : List (Nat × Nat)) : ∀ r, r ≤ ps.length → S b ps r [] = []
  | 0, _ => rfl
  | r + 1, h => by
    rw [S_succ (List.getElem?_eq_getElem (show r < ps.length by omega)), S_nil b ps r (by omega), pt_nil]
theorem S_one (b : Nat) (ps : List (Nat × Nat)) (x : Nat) : ∀ r, r ≤ ps.length → S b ps r [x] = [x]
  | 0, _ => rfl
  | r + 1, h => by
    rw [S_succ (List.getElem?_eq_getElem (show r < ps.length by omega)), S_one b ps x r (by omega), pt_one]
theorem S_ne_nil {b : Nat} {ps : List (Nat × Nat)} {row : List Nat} (hn : row ≠ []) : ∀ r, r ≤ ps.length → S b ps r row ≠ []
  | 0, _ => hn
  | r + 1, h => by
    rw [S_succ (List.getElem?_eq_getElem (show r < ps.length by omega))]
    exact pt_ne_nil (S_ne_nil hn r (by omega))
/-- once a row has one piece it stays -/
theorem S_stays {b : Nat} {ps : List (Nat × Nat)} {row : List Nat} {x : Nat} {k : Nat} (h : S b ps k row = [x]) : ∀ r, k ≤ r → r ≤ ps.length → S b ps r row = [x] := by
  intro r hk
  induction r with
  | zero =>
    intro _
    have : k = 0 := by omega
    subst this; exact h
  | succ r ih =>
    intro hr
    by_cases e : k = r + 1
    · subst e; exact h
    · rw [S_succ (List.getElem?_eq_getElem (show r < ps.length by omega)), ih (by omega) (by omega), pt_one]

/-! ### texts -/
def tx (T : List (List Nat)) (p : Nat) : List Nat := T.getD p []
theorem tx_of {T : List (List Nat)} {p : Nat} {t : List Nat} (h : T[p]? = some t) : tx T p = t := by
  unfold tx; rw [List.getD_eq_getElem?_getD, h]; rfl
/-- a proper list of joins over b letters, its pieces' texts -/
structure PL (b : Nat) (ps : List (Nat × Nat)) (T : List (List Nat)) : Prop where
  pos : 0 < b
  len : T.length = b + ps.length
  lett : ∀ i, i < b → T[i]? = some [i]
  join : ∀ r l m, ps[r]? = some (l, m) → l < b + r ∧ m < b + r ∧ T[b + r]? = some (tx T l ++ tx T m) ∧ S b ps r (tx T l ++ tx T m) = [l, m] ∧ (tx T l ++ tx T m).length ≤ 40

/-- ps's pairs stand below what they make -/
def Low (b : Nat) (ps : List (Nat × Nat)) : Prop := ∀ (r x y : Nat), ps[r]? = some (x, y) → x < b + r ∧ y < b + r
theorem PL.low {b : Nat} {ps : List (Nat × Nat)} {T : List (List Nat)} (h : PL b ps T) : Low b ps := fun r x y e => ⟨(h.join r x y e).1, (h.join r x y e).2.1⟩
/-- behind its stage a pair does not come again -/
theorem Low.gone {b : Nat} {ps : List (Nat × Nat)} (h : Low b ps) {row : List Nat} {q x y : Nat} (e : ps[q]? = some (x, y)) : ∀ r, q < r → r ≤ ps.length → ¬ Adj x y (S b ps r row)
  | r + 1, hq, hr, ha => by
    have lt := h q x y e
    have er : ps[r]? = some ps[r] := List.getElem?_eq_getElem (by omega)
    rw [S_succ er] at ha
    have := adj_pt (by omega) (by omega) _ ha
    by_cases c : q = r
    · subst c
      rw [e] at er
      exact this.2 (Option.some.inj er)
    · exact h.gone e r (by omega) (by omega) this.1
theorem PL.nodup {b : Nat} {ps : List (Nat × Nat)} {T : List (List Nat)} (h : PL b ps T) {q r : Nat} {p : Nat × Nat} (hq : ps[q]? = some p) (hr : ps[r]? = some p) : q = r := by
  have aux : ∀ q r : Nat, ps[q]? = some p → ps[r]? = some p → ¬ q < r := fun q r hq hr hlt => by
    obtain ⟨x, y⟩ := p
    have j := (h.join r x y hr).2.2.2.1
    have hrl : r < ps.length := (List.getElem?_eq_some_iff.mp hr).1
    have g := h.low.gone (row := tx T x ++ tx T y) hq r hlt (by omega)
    rw [j] at g
    exact g (.inl ⟨rfl, rfl⟩)
  have a := aux q r hq hr
  have c := aux r q hr hq
  omega

/-! ### the cut: the lowest pair first -/
/-- no pair below rank k is there -/
def Clear (ps : List (Nat × Nat)) (k : Nat) (row : List Nat) : Prop := ∀ (q x y : Nat), ps[q]? = some (x, y) → Adj x y row → k ≤ q
theorem S_skip {b : Nat} {ps : List (Nat × Nat)} {row row' : List Nat} {k q : Nat} (h : S b ps k row = row') (hc : Clear ps q row') (hk : k ≤ q) (hq : q ≤ ps.length) : S b ps q row = row' := by
  induction q with
  | zero =>
    have : k = 0 := by omega
    subst this; exact h
  | succ q ih =>
    by_cases e : k = q + 1
    · subst e; exact h
    · have i := ih (fun q' x y e ha => by have := hc q' x y e ha; omega) (by omega) (by omega)
      have er : ps[q]? = some ps[q] := List.getElem?_eq_getElem (by omega)
      rw [S_succ er, i]
      refine pt_absent _ fun ha => ?_
      have := hc q _ _ er ha
      omega
/-- one turn of the cut's loop -/
theorem cut_turn {b : Nat} {ps : List (Nat × Nat)} (hl : Low b ps) {row row' : List Nat} {k q x y : Nat} (h : S b ps k row = row') (e : ps[q]? = some (x, y)) (hc : Clear ps q row') (hk : k ≤ q) :
    S b ps (q + 1) row = pt (x, y) (b + q) row' ∧ Clear ps (q + 1) (pt (x, y) (b + q) row') := by
  have hq : q < ps.length := (List.getElem?_eq_some_iff.mp e).1
  have i := S_skip h hc hk (by omega)
  refine ⟨by rw [S_succ e, i], fun q' x' y' e' ha => ?_⟩
  by_cases c : q + 1 ≤ q'
  · exact c
  · have lt := hl q' x' y' e'
    have z := adj_pt (by omega) (by omega) _ ha
    have w := hc q' x' y' e' z.1
    have e2 : q' = q := by omega
    subst e2
    rw [e] at e'
    exact absurd (Option.some.inj e').symm z.2
theorem cut_end {b : Nat} {ps : List (Nat × Nat)} {row row' : List Nat} {k : Nat} (h : S b ps k row = row') (hk : k ≤ ps.length) (hn : ∀ (q x y : Nat), ps[q]? = some (x, y) → ¬ Adj x y row') : st b ps row = row' := by
  rw [← S_all]
  exact S_skip h (fun q x y e ha => absurd ha (hn q x y e)) hk (Nat.le_refl _)
theorem pt_less {p : Nat × Nat} {m : Nat} : ∀ l, Adj p.1 p.2 l → (pt p m l).length < l.length := by
  refine pt_ind (p := p) ?_ ?_ ?_ ?_
  · intro h; exact absurd h (by simp [Adj])
  · intro a h; exact absurd h (by simp [Adj])
  · intro x y r e _ _
    rw [pt_yes e]
    have := pt_length p m r
    simp only [List.length_cons]; omega
  · intro x y r e ih h
    rw [pt_no e]
    rcases h.of_cons with ⟨q, t, ht⟩ | q
    · injection ht with h1 h2
      exact absurd (by rw [q, h1]) e
    · have := ih q
      simp only [List.length_cons] at this ⊢; omega

/-! ### a proper list's pieces -/
section
variable {b : Nat} {ps : List (Nat × Nat)} {T : List (List Nat)}
theorem PL.tx_let (h : PL b ps T) {i : Nat} (hi : i < b) : tx T i = [i] := tx_of (h.lett i hi)
theorem PL.tx_join (h : PL b ps T) {r l m : Nat} (e : ps[r]? = some (l, m)) : tx T (b + r) = tx T l ++ tx T m := tx_of (h.join r l m e).2.2.1
/-- an induction over the pieces -/
theorem PL.ind (h : PL b ps T) {C : Nat → Prop} (h0 : ∀ i, i < b → C i) (h1 : ∀ r l m, ps[r]? = some (l, m) → C l → C m → C (b + r)) : ∀ p, p < b + ps.length → C p := by
  intro p
  induction p using Nat.strongRecOn with
  | ind p ih =>
    intro hp
    by_cases c : p < b
    · exact h0 p c
    · obtain ⟨r, rfl⟩ : ∃ r, p = b + r := ⟨p - b, by omega⟩
      have er : ps[r]? = some (ps[r].1, ps[r].2) := List.getElem?_eq_getElem (show r < ps.length by omega)
      have lt := h.low r _ _ er
      exact h1 r _ _ er (ih _ (by omega) (by omega)) (ih _ (by omega) (by omega))
theorem PL.tx_ne (h : PL b ps T) : ∀ p, p < b + ps.length → tx T p ≠ [] := by
  refine h.ind (fun i hi => by rw [h.tx_let hi]; simp) fun r l m e hl hm => ?_
  rw [h.tx_join e]
  exact fun z => hl (List.append_eq_nil_iff.mp z).1
theorem PL.tx_lt (h : PL b ps T) : ∀ p, p < b + ps.length → ∀ x, x ∈ tx T p → x < b := by
  refine h.ind (fun i hi x hx => by rw [h.tx_let hi] at hx; simp at hx; omega) fun r l m e hl hm x hx => ?_
  rw [h.tx_join e] at hx
  rcases List.mem_append.mp hx with z | z
  · exact hl x z
  · exact hm x z
theorem PL.tx_short (h : PL b ps T) {p : Nat} (hp : p < b + ps.length) : (tx T p).length ≤ 40 := by
  by_cases c : p < b
  · rw [h.tx_let c]; simp
  · obtain ⟨r, rfl⟩ : ∃ r, p = b + r := ⟨p - b, by omega⟩
    have er : ps[r]? = some (ps[r].1, ps[r].2) := List.getElem?_eq_getElem (show r < ps.length by omega)
    rw [h.tx_join er]
    exact (h.join r _ _ er).2.2.2.2
/-- the cut of the text of a piece is this piece alone -/
theorem PL.whole (h : PL b ps T) {p r : Nat} (hp : p < b + r) (hr : r ≤ ps.length) : S b ps r (tx T p) = [p] := by
  by_cases c : p < b
  · rw [h.tx_let c]; exact S_one b ps p r hr
  · obtain ⟨q, rfl⟩ : ∃ q, p = b + q := ⟨p - b, by omega⟩
    have eq : ps[q]? = some (ps[q].1, ps[q].2) := List.getElem?_eq_getElem (show q < ps.length by omega)
    have j := (h.join q _ _ eq).2.2.2.1
    refine S_stays (k := q + 1) ?_ r (by omega) hr
    rw [S_succ eq, h.tx_join eq, j, pt_yes rfl, pt_nil]

/-! ### rows' texts, ends -/
def txr (T : List (List Nat)) (row : List Nat) : List Nat := (row.map (tx T)).flatten
theorem txr_nil : txr T [] = [] := rfl
theorem txr_cons (x : Nat) (r : List Nat) : txr T (x :: r) = tx T x ++ txr T r := rfl
theorem txr_append (A B : List Nat) : txr T (A ++ B) = txr T A ++ txr T B := by
  unfold txr; rw [List.map_append, List.flatten_append]
theorem txr_pt {p : Nat × Nat} {m : Nat} (e : tx T m = tx T p.1 ++ tx T p.2) : ∀ l, txr T (pt p m l) = txr T l := by
  refine pt_ind (p := p) ?_ ?_ ?_ ?_
  · rw [pt_nil]
  · intro x; rw [pt_one]
  · intro x y r q ih
    subst q
    rw [pt_yes rfl, txr_cons, txr_cons, txr_cons, ih, e, List.append_assoc]
  · intro x y r q ih
    rw [pt_no q, txr_cons, txr_cons, ih]
theorem PL.txr_S (h : PL b ps T) (row : List Nat) : ∀ r, r ≤ ps.length → txr T (S b ps r row) = txr T row
  | 0, _ => rfl
  | r + 1, hr => by
    have er : ps[r]? = some (ps[r].1, ps[r].2) := List.getElem?_eq_getElem (show r < ps.length by omega)
    rw [S_succ er, txr_pt (h.tx_join er), h.txr_S row r (by omega)]
theorem PL.txr_let (h : PL b ps T) : ∀ l : List Nat, (∀ x ∈ l, x < b) → txr T l = l
  | [], _ => rfl
  | x :: r, hl => by
    rw [txr_cons, h.tx_let (hl x (by simp)), h.txr_let r fun y hy => hl y (by simp [hy])]; rfl
/-- where a row can be parted: the lengths of its beginnings, but the empty one's -/
def At (T : List (List Nat)) (k : Nat) (row : List Nat) : Prop := ∃ A B, A ≠ [] ∧ row = A ++ B ∧ (txr T A).length = k
theorem At.pt {p : Nat × Nat} {m : Nat} (e : tx T m = tx T p.1 ++ tx T p.2) : ∀ l k, At T k (pt p m l) → At T k l := by
  refine pt_ind (p := p) ?_ ?_ ?_ ?_
  · intro k h; rw [pt_nil] at h; exact h
  · intro x k h; rw [pt_one] at h; exact h
  · intro x y r q ih k h
    subst q
    rw [pt_yes rfl] at h
    obtain ⟨A, B, hA, hr, hk⟩ := h
    cases A with
    | nil => exact absurd rfl hA
    | cons a A =>
      simp only [List.cons_append, List.cons.injEq] at hr
      obtain ⟨rfl, hr⟩ := hr
      rw [txr_cons, e] at hk
      by_cases hA' : A = []
      · subst hA'
        exact ⟨[x, y], r, by simp, rfl, by rw [txr_cons, txr_cons]; simpa [txr_nil] using hk⟩
      · obtain ⟨A2, B2, h1, h2, h3⟩ := ih (txr T A).length ⟨A, B, hA', hr, rfl⟩
        refine ⟨x :: y :: A2, B2, by simp, by rw [h2]; rfl, ?_⟩
        rw [txr_cons, txr_cons]
        simp only [List.length_append] at hk ⊢
        omega
  · intro x y r q ih k h
    rw [pt_no q] at h
    obtain ⟨A, B, hA, hr, hk⟩ := h
    cases A with
    | nil => exact absurd rfl hA
    | cons a A =>
      simp only [List.cons_append, List.cons.injEq] at hr
      obtain ⟨rfl, hr⟩ := hr
      rw [txr_cons] at hk
      by_cases hA' : A = []
      · subst hA'
        exact ⟨[x], y :: r, by simp, rfl, by rw [txr_cons]; simpa using hk⟩
      · obtain ⟨A2, B2, h1, h2, h3⟩ := ih (txr T A).length ⟨A, B, hA', hr, rfl⟩
        refine ⟨x :: A2, B2, by simp, by rw [h2]; rfl, ?_⟩
        rw [txr_cons]
        simp only [List.length_append] at hk ⊢
        omega
/-- the ends shrink -/
theorem PL.at_back (h : PL b ps T) {row : List Nat} {k j : Nat} : ∀ r, j ≤ r → r ≤ ps.length → At T k (S b ps r row) → At T k (S b ps j row) := by
  intro r hj
  induction r with
  | zero =>
    intro _ ha
    have : j = 0 := by omega
    subst this; exact ha
  | succ r ih =>
    intro hr ha
    by_cases e : j = r + 1
    · subst e; exact ha
    · have er : ps[r]? = some (ps[r].1, ps[r].2) := List.getElem?_eq_getElem (show r < ps.length by omega)
      rw [S_succ er] at ha
      exact ih (by omega) (by omega) (At.pt (h.tx_join er) _ _ ha)

/-! ### two rows side by side -/
theorem snoc_inj {α : Type} {A B : List α} {x y : α} (h : A ++ [x] = B ++ [y]) : A = B ∧ x = y := by
  have := List.append_inj' h rfl
  exact ⟨this.1, by simpa using this.2⟩
/-- the join goes over the border -/
def Over (p : Nat × Nat) (m : Nat) (X Y : List Nat) : Prop := ∃ A x y Y', pt p m X = A ++ [x] ∧ x ≠ m ∧ Y = y :: Y' ∧ (x, y) = p
theorem cons_snoc {a x : Nat} {l A : List Nat} (h : a :: l = A ++ [x]) (hx : x ≠ a) : ∃ A', A = a :: A' ∧ l = A' ++ [x] := by
  cases A with
  | nil =>
    simp only [List.nil_append, List.cons.injEq] at h
    exact absurd h.1.symm hx
  | cons c A =>
    simp only [List.cons_append, List.cons.injEq] at h
    exact ⟨A, by rw [h.1], h.2⟩
theorem cons_snoc' {a x : Nat} {l A : List Nat} (h : a :: l = A ++ [x]) (hl : l ≠ []) : ∃ A', A = a :: A' ∧ l = A' ++ [x] := by
  cases A with
  | nil =>
    simp only [List.nil_append, List.cons.injEq] at h
    exact absurd h.2 hl
  | cons c A =>
    simp only [List.cons_append, List.cons.injEq] at h
    exact ⟨A, by rw [h.1], h.2⟩
theorem pt_over {p : Nat × Nat} {m : Nat} {Y' : List Nat} {x y : Nat} (hm : x ≠ m) (hp : (x, y) = p) : ∀ X A, m ∉ X → pt p m X = A ++ [x] → pt p m (X ++ y :: Y') = A ++ m :: pt p m Y' := by
  refine pt_ind (p := p) ?_ ?_ ?_ ?_
  · intro A _ h; rw [pt_nil] at h; simp at h
  · intro a A _ h
    rw [pt_one] at h
    obtain ⟨e1, e2⟩ := snoc_inj (A := []) h
    subst e1; subst e2
    exact pt_yes hp
  · intro a c r e ih A hmX h
    rw [pt_yes e] at h
    obtain ⟨A', e1, e2⟩ := cons_snoc h hm
    subst e1
    show pt p m (a :: c :: (r ++ y :: Y')) = m :: (A' ++ m :: pt p m Y')
    rw [pt_yes e, ih A' (fun z => hmX (by simp [z])) e2]
  · intro a c r e ih A hmX h
    rw [pt_no e] at h
    obtain ⟨A', e1, e2⟩ := cons_snoc' h (pt_ne_nil (by simp))
    subst e1
    show pt p m (a :: c :: (r ++ y :: Y')) = a :: (A' ++ m :: pt p m Y')
    rw [pt_no e]
    have := ih A' (fun z => hmX (List.mem_cons_of_mem _ z)) e2
    rw [← this]; rfl
theorem pt_apart {p : Nat × Nat} {m : Nat} {Y : List Nat} : ∀ X, m ∉ X → ¬ Over p m X Y → pt p m (X ++ Y) = pt p m X ++ pt p m Y := by
  refine pt_ind (p := p) ?_ ?_ ?_ ?_
  · intro _ _; rw [pt_nil]; rfl
  · intro a hm h
    rw [pt_one]
    cases Y with
    | nil => rw [pt_nil]; exact pt_one ..
    | cons y Y' =>
      have : ¬ (a, y) = p := fun e => h ⟨[], a, y, Y', pt_one .., fun z => hm (by simp [z]), rfl, e⟩
      exact pt_no this
  · intro a c r e ih hm h
    show pt p m (a :: c :: (r ++ Y)) = _
    rw [pt_yes e, pt_yes e, ih (fun z => hm (by simp [z])) fun ⟨A, x, y, Y', h1, h2, h3, h4⟩ => h ⟨m :: A, x, y, Y', by rw [pt_yes e, h1]; rfl, h2, h3, h4⟩]
    rfl
  · intro a c r e ih hm h
    show pt p m (a :: c :: (r ++ Y)) = _
    rw [pt_no e, pt_no e]
    have := ih (fun z => hm (List.mem_cons_of_mem _ z)) fun ⟨A, x, y, Y', h1, h2, h3, h4⟩ => h ⟨a :: A, x, y, Y', by rw [pt_no e, h1]; rfl, h2, h3, h4⟩
    show a :: pt p m ((c :: r) ++ Y) = _
    rw [this]; rfl
theorem S_lt {row : List Nat} (h : ∀ x ∈ row, x < b) : ∀ r, r ≤ ps.length → ∀ x ∈ S b ps r row, x < b + r
  | 0, _ => fun x hx => h x hx
  | r + 1, hr => by
    have ih := S_lt h r (by omega)
    rw [S_succ (List.getElem?_eq_getElem (show r < ps.length by omega))]
    have aux : ∀ (p : Nat × Nat) (m : Nat) (l : List Nat), ∀ x ∈ pt p m l, x = m ∨ x ∈ l := fun p m => by
      refine pt_ind (p := p) ?_ ?_ ?_ ?_
      · intro x hx; rw [pt_nil] at hx; exact .inr hx
      · intro a x hx; rw [pt_one] at hx; exact .inr hx
      · intro a c r e ih x hx
        rw [pt_yes e] at hx
        rcases List.mem_cons.mp hx with z | z
        · exact .inl z
        · rcases ih x z with z | z
          · exact .inl z
          · exact .inr (by simp [z])
      · intro a c r e ih x hx
        rw [pt_no e] at hx
        rcases List.mem_cons.mp hx with z | z
        · exact .inr (by simp [z])
        · rcases ih x z with z | z
          · exact .inl z
          · exact .inr (List.mem_cons_of_mem _ z)
    intro x hx
    rcases aux _ _ _ x hx with z | z
    · omega
    · have := ih x z; omega
theorem S_below (h : Low b ps) {row : List Nat} {n : Nat} (hb : ∀ x ∈ row, x < n) (hn : b + ps.length ≤ n) : ∀ r, r ≤ ps.length → ∀ x ∈ S b ps r row, x < n
  | 0, _ => fun x hx => hb x hx
  | r + 1, hr => by
    have ih := S_below h hb hn r (by omega)
    rw [S_succ (List.getElem?_eq_getElem (show r < ps.length by omega))]
    have aux : ∀ (p : Nat × Nat) (m : Nat) (l : List Nat), ∀ x ∈ pt p m l, x = m ∨ x ∈ l := fun p m => by
      refine pt_ind (p := p) ?_ ?_ ?_ ?_
      · intro x hx; rw [pt_nil] at hx; exact .inr hx
      · intro a x hx; rw [pt_one] at hx; exact .inr hx
      · intro a c r e ih x hx
        rw [pt_yes e] at hx
        rcases List.mem_cons.mp hx with z | z
        · exact .inl z
        · rcases ih x z with z | z
          · exact .inl z
          · exact .inr (by simp [z])
      · intro a c r e ih x hx
        rw [pt_no e] at hx
        rcases List.mem_cons.mp hx with z | z
        · exact .inr (by simp [z])
        · rcases ih x z with z | z
          · exact .inl z
          · exact .inr (List.mem_cons_of_mem _ z)
    intro x hx
    rcases aux _ _ _ x hx with z | z
    · omega
    · exact ih x z
/-- a join over the border: the border is gone -/
theorem over_not_at {T : List (List Nat)} {p : Nat × Nat} {m : Nat} {X Y : List Nat} (e : tx T m = tx T p.1 ++ tx T p.2) (h1 : tx T p.1 ≠ []) (h2 : tx T p.2 ≠ []) (hm : m ∉ X) (h : Over p m X Y) : ¬ At T (txr T X).length (pt p m (X ++ Y)) := by
  obtain ⟨A, x, y, Y', ha, hx, rfl, rfl⟩ := h
  rw [pt_over hx rfl X A hm ha]
  rintro ⟨A2, B2, hA2, he, hk⟩
  have hX : txr T X = txr T A ++ tx T x := by rw [← txr_pt (p := (x, y)) (m := m) e X, ha, txr_append, txr_cons, txr_nil, List.append_nil]
  have l1 : 0 < (tx T x).length := List.length_pos_iff.mpr h1
  have l2 : 0 < (tx T y).length := List.length_pos_iff.mpr h2
  rw [hX, List.length_append] at hk
  rcases List.append_eq_append_iff.mp he with ⟨c, e1, e2⟩ | ⟨c, e1, e2⟩
  · cases c with
    | nil =>
      rw [List.append_nil] at e1
      rw [e1] at hk; omega
    | cons d c =>
      simp only [List.cons_append, List.cons.injEq] at e2
      obtain ⟨rfl, e2⟩ := e2
      rw [e1, txr_append, txr_cons, e] at hk
      simp only [List.length_append] at hk
      omega
  · rw [e1, txr_append, List.length_append] at hk
    omega

/-- where the border stands at stage q the two texts are cut apart up to there -/
theorem PL.apart (h : PL b ps T) {X Y : List Nat} (hX : ∀ x ∈ X, x < b) (hne : X ≠ []) {q : Nat} (hq : q ≤ ps.length) (ha : At T X.length (S b ps q (X ++ Y))) :
    ∀ r, r ≤ q → S b ps r (X ++ Y) = S b ps r X ++ S b ps r Y
  | 0, _ => rfl
  | r + 1, hr => by
    have ih := h.apart hX hne hq ha r (by omega)
    have er : ps[r]? = some (ps[r].1, ps[r].2) := List.getElem?_eq_getElem (show r < ps.length by omega)
    have lt := h.low r _ _ er
    have hm : b + r ∉ S b ps r X := fun z => by have := S_lt hX r (by omega) _ z; omega
    have hlen : (txr T (S b ps r X)).length = X.length := by rw [h.txr_S X r (by omega), h.txr_let X hX]
    have hno : ¬ Over (ps[r].1, ps[r].2) (b + r) (S b ps r X) (S b ps r Y) := fun o => by
      have na := over_not_at (h.tx_join er) (h.tx_ne _ (by omega)) (h.tx_ne _ (by omega)) hm o
      rw [hlen, ← ih, ← S_succ er] at na
      exact na (h.at_back q (by omega) hq ha)
    rw [S_succ er, S_succ er, S_succ er, ih, pt_apart _ hm hno]
theorem PL.split (h : PL b ps T) {q l m : Nat} (e : ps[q]? = some (l, m)) {r : Nat} (hr : r ≤ q) : S b ps r (tx T (b + q)) = S b ps r (tx T l) ++ S b ps r (tx T m) := by
  have hq : q < ps.length := (List.getElem?_eq_some_iff.mp e).1
  have lt := h.low q l m e
  rw [h.tx_join e]
  refine h.apart (h.tx_lt l (by omega)) (h.tx_ne l (by omega)) (Nat.le_of_lt hq) ?_ r hr
  rw [(h.join q l m e).2.2.2.1]
  exact ⟨[l], [m], by simp, rfl, by rw [txr_cons, txr_nil, List.append_nil]⟩

/-! ### spines -/
def parts (b : Nat) (ps : List (Nat × Nat)) (p : Nat) : Option (Nat × Nat) := if p < b then none else ps[p - b]?
theorem parts_let {p : Nat} (h : p < b) : parts b ps p = none := if_pos h
theorem parts_join {p r : Nat} (h : p = b + r) : parts b ps p = ps[r]? := by
  unfold parts; subst h; rw [if_neg (by omega), Nat.add_sub_cancel_left]
/-- the spine below p -/
inductive Spn (sel : Nat × Nat → Nat) (b : Nat) (ps : List (Nat × Nat)) : Nat → List (Nat × Option Nat) → Prop
  | leaf {p : Nat} : parts b ps p = none → Spn sel b ps p []
  | node {p : Nat} {pr : Nat × Nat} {L : List (Nat × Option Nat)} : parts b ps p = some pr → Spn sel b ps (sel pr) L → Spn sel b ps p ((sel pr, some (p - b)) :: L)
theorem parts_some {p : Nat} {pr : Nat × Nat} (h : parts b ps p = some pr) : ∃ r, p = b + r ∧ ps[r]? = some pr := by
  unfold parts at h
  by_cases c : p < b
  · rw [if_pos c] at h; cases h
  · rw [if_neg c] at h
    exact ⟨p - b, by omega, h⟩
theorem parts_none {p : Nat} (h : parts b ps p = none) (hp : p < b + ps.length) : p < b := by
  unfold parts at h
  by_cases c : p < b
  · exact c
  · rw [if_neg c] at h
    have := List.getElem?_eq_none_iff.mp h
    omega
/-- which part -/
def IsSel (sel : Nat × Nat → Nat) : Prop := sel = Prod.fst ∨ sel = Prod.snd
theorem IsSel.lt {sel : Nat × Nat → Nat} (hs : IsSel sel) (h : Low b ps) {r : Nat} {pr : Nat × Nat} (e : ps[r]? = some pr) : sel pr < b + r := by
  obtain ⟨x, y⟩ := pr
  have := h r x y e
  rcases hs with rfl | rfl
  · exact this.1
  · exact this.2
theorem Spn.bound {sel : Nat × Nat → Nat} (hs : IsSel sel) (h : Low b ps) {p : Nat} {L : List (Nat × Option Nat)} (s : Spn sel b ps p L) : ∀ x q, (x, some q) ∈ L → b + q ≤ p := by
  induction s with
  | leaf _ => intro x q hx; simp at hx
  | @node p pr L e _ ih =>
    intro x q hx
    obtain ⟨r, rfl, e1⟩ := parts_some e
    have lt := hs.lt h e1
    rcases List.mem_cons.mp hx with z | z
    · simp only [Prod.mk.injEq, Option.some.injEq] at z
      omega
    · have := ih x q z
      omega
theorem Spn.exists {sel : Nat × Nat → Nat} (hs : IsSel sel) (h : Low b ps) {p : Nat} {L : List (Nat × Option Nat)} (s : Spn sel b ps p L) : p < b + ps.length → ∀ r, p < b + r ∨ ∃ x q, (x, some q) ∈ L ∧ x < b + r ∧ r ≤ q := by
  induction s with
  | leaf e =>
    intro hp r
    have := parts_none e hp
    exact .inl (by omega)
  | @node p pr L e _ ih =>
    intro hp r
    obtain ⟨q, rfl, e1⟩ := parts_some e
    have lt := hs.lt h e1
    by_cases c : b + q < b + r
    · exact .inl c
    · right
      rcases ih (by omega) r with z | ⟨x, q', h1, h2, h3⟩
      · exact ⟨sel pr, q, by simp, z, by omega⟩
      · exact ⟨x, q', by simp [h1], h2, h3⟩
/-- the last piece of the stages of a piece's text -/
theorem PL.last (h : PL b ps T) {p : Nat} {L : List (Nat × Option Nat)} (s : Spn Prod.snd b ps p L) : p < b + ps.length → ∀ x q r, (x, some q) ∈ L → x < b + r → r ≤ q → ∃ A, S b ps r (tx T p) = A ++ [x] := by
  induction s with
  | leaf _ => intro _ x q r hx; simp at hx
  | @node p pr L e s ih =>
    intro hp x q r hx hxr hr
    obtain ⟨q0, rfl, e1⟩ := parts_some e
    obtain ⟨l, m⟩ := pr
    have lt := h.low q0 l m e1
    rcases List.mem_cons.mp hx with z | z
    · simp only [Prod.mk.injEq, Option.some.injEq] at z
      obtain ⟨rfl, z⟩ := z
      refine ⟨S b ps r (tx T l), ?_⟩
      rw [h.split e1 (by omega), h.whole hxr (by omega)]
    · have bd : b + q ≤ m := s.bound (.inr rfl) h.low x q z
      obtain ⟨A, hA⟩ := ih (by show m < _; omega) x q r z hxr hr
      refine ⟨S b ps r (tx T l) ++ A, ?_⟩
      rw [h.split e1 (by omega), hA, List.append_assoc]
/-- the first one -/
theorem PL.first (h : PL b ps T) {p : Nat} {L : List (Nat × Option Nat)} (s : Spn Prod.fst b ps p L) : p < b + ps.length → ∀ x q r, (x, some q) ∈ L → x < b + r → r ≤ q → ∃ A, S b ps r (tx T p) = x :: A := by
  induction s with
  | leaf _ => intro _ x q r hx; simp at hx
  | @node p pr L e s ih =>
    intro hp x q r hx hxr hr
    obtain ⟨q0, rfl, e1⟩ := parts_some e
    obtain ⟨l, m⟩ := pr
    have lt := h.low q0 l m e1
    rcases List.mem_cons.mp hx with z | z
    · simp only [Prod.mk.injEq, Option.some.injEq] at z
      obtain ⟨rfl, z⟩ := z
      refine ⟨S b ps r (tx T m), ?_⟩
      rw [h.split e1 (by omega), h.whole hxr (by omega)]; rfl
    · have bd : b + q ≤ l := s.bound (.inl rfl) h.low x q z
      obtain ⟨A, hA⟩ := ih (by show l < _; omega) x q r z hxr hr
      refine ⟨A ++ S b ps r (tx T m), ?_⟩
      rw [h.split e1 (by omega), hA]; rfl

/-! ### crossings -/
/-- some pair of the two spines stands at r within its bounds -/
def Cond (ps : List (Nat × Nat)) (RA RB : List (Nat × Option Nat)) (r : Nat) : Prop :=
  ∃ x bx y bd, (x, bx) ∈ RA ∧ (y, bd) ∈ RB ∧ ps[r]? = some (x, y) ∧ (∀ q, bx = some q → r < q) ∧ ∀ q, bd = some q → r ≤ q
theorem PL.stage (h : PL b ps T) {l m : Nat} (hl : l < b + ps.length) (hm : m < b + ps.length) {LA LB : List (Nat × Option Nat)} (sa : Spn Prod.snd b ps l LA) (sb : Spn Prod.fst b ps m LB) {r : Nat} (hr : r < ps.length)
    (ha : S b ps r (tx T l ++ tx T m) = S b ps r (tx T l) ++ S b ps r (tx T m)) :
    (Cond ps ((l, none) :: LA) ((m, none) :: LB) r → ¬ At T (tx T l).length (S b ps (r + 1) (tx T l ++ tx T m))) ∧
    (¬ Cond ps ((l, none) :: LA) ((m, none) :: LB) r → S b ps (r + 1) (tx T l ++ tx T m) = S b ps (r + 1) (tx T l) ++ S b ps (r + 1) (tx T m)) := by
  have er : ps[r]? = some (ps[r].1, ps[r].2) := List.getElem?_eq_getElem hr
  have lt := h.low r _ _ er
  have hX := h.tx_lt l hl
  have nm : b + r ∉ S b ps r (tx T l) := fun z => by have := S_lt hX r (by omega) _ z; omega
  have hlen : (txr T (S b ps r (tx T l))).length = (tx T l).length := by rw [h.txr_S _ r (by omega), h.txr_let _ hX]
  constructor
  · rintro ⟨x, bx, y, bd, h1, h2, h3, h4, h5⟩
    have lt' := h.low r x y h3
    have e3 : (x, y) = (ps[r].1, ps[r].2) := Option.some.inj (h3.symm.trans er)
    obtain ⟨A, hA⟩ : ∃ A, S b ps (r + 1) (tx T l) = A ++ [x] := by
      rcases List.mem_cons.mp h1 with z | z
      · simp only [Prod.mk.injEq] at z
        obtain ⟨rfl, _⟩ := z
        exact ⟨[], h.whole (by omega) (by omega)⟩
      · obtain ⟨q, rfl⟩ : ∃ q, bx = some q := by
          have aux : ∀ {p : Nat} {L : List (Nat × Option Nat)}, Spn Prod.snd b ps p L → (x, bx) ∈ L → ∃ q, bx = some q := fun s => by
            induction s with
            | leaf _ => intro z; simp at z
            | node _ _ ih =>
              intro z
              rcases List.mem_cons.mp z with z | z
              · simp only [Prod.mk.injEq] at z; exact ⟨_, z.2⟩
              · exact ih z
          exact aux sa z
        exact h.last sa hl x q (r + 1) z (by omega) (h4 q rfl)
    obtain ⟨B, hB⟩ : ∃ B, S b ps r (tx T m) = y :: B := by
      rcases List.mem_cons.mp h2 with z | z
      · simp only [Prod.mk.injEq] at z
        obtain ⟨rfl, _⟩ := z
        exact ⟨[], h.whole (by omega) (by omega)⟩
      · obtain ⟨q, rfl⟩ : ∃ q, bd = some q := by
          have aux : ∀ {p : Nat} {L : List (Nat × Option Nat)}, Spn Prod.fst b ps p L → (y, bd) ∈ L → ∃ q, bd = some q := fun s => by
            induction s with
            | leaf _ => intro z; simp at z
            | node _ _ ih =>
              intro z
              rcases List.mem_cons.mp z with z | z
              · simp only [Prod.mk.injEq] at z; exact ⟨_, z.2⟩
              · exact ih z
          exact aux sb z
        exact h.first sb hm y q r z (by omega) (h5 q rfl)
    rw [S_succ er] at hA
    have := over_not_at (h.tx_join er) (h.tx_ne _ (by omega)) (h.tx_ne _ (by omega)) nm ⟨A, x, y, B, hA, by omega, hB, e3⟩
    rw [hlen, ← ha, ← S_succ er] at this
    exact this
  · intro hc
    rw [S_succ er, S_succ er, S_succ er, ha]
    refine pt_apart _ nm fun ⟨A, x, y, Y', h1, h2, h3, h4⟩ => hc ?_
    rw [← S_succ er] at h1
    have h4' : ps[r]? = some (x, y) := er.trans (congrArg some h4.symm)
    have lt' := h.low r x y h4'
    obtain ⟨bx, m1, m2⟩ : ∃ bx, (x, bx) ∈ (l, none) :: LA ∧ ∀ q, bx = some q → r < q := by
      rcases sa.exists (.inr rfl) h.low hl (r + 1) with z | ⟨x', q, z1, z2, z3⟩
      · rw [h.whole z (by omega)] at h1
        have := (snoc_inj (A := []) h1).2
        subst this
        exact ⟨none, by simp, fun q z => nomatch z⟩
      · obtain ⟨A', hA'⟩ := h.last sa hl x' q (r + 1) z1 z2 z3
        rw [hA'] at h1
        have := (snoc_inj h1).2
        subst this
        exact ⟨some q, by simp [z1], fun q' z => by cases z; omega⟩
    obtain ⟨bd, m3, m4⟩ : ∃ bd, (y, bd) ∈ (m, none) :: LB ∧ ∀ q, bd = some q → r ≤ q := by
      rcases sb.exists (.inl rfl) h.low hm r with z | ⟨y', q, z1, z2, z3⟩
      · rw [h.whole z (by omega)] at h3
        injection h3 with h3 _
        subst h3
        exact ⟨none, by simp, fun q z => nomatch z⟩
      · obtain ⟨A', hA'⟩ := h.first sb hm y' q r z1 z2 z3
        rw [hA'] at h3
        injection h3 with h3 _
        subst h3
        exact ⟨some q, by simp [z1], fun q' z => by cases z; omega⟩
    exact ⟨x, bx, y, bd, m1, m3, h4', m2, m4⟩
/-- the least number of which P is so -/
def IsMin (P : Nat → Prop) : Option Nat → Prop
  | none => ∀ r, ¬ P r
  | some r => P r ∧ ∀ q, P q → r ≤ q
/-- the first stage without the border -/
def IsFC (b : Nat) (ps : List (Nat × Nat)) (T : List (List Nat)) (k : Nat) (row : List Nat) : Option Nat → Prop
  | none => ∀ r, r < ps.length → At T k (S b ps (r + 1) row)
  | some r => r < ps.length ∧ ¬ At T k (S b ps (r + 1) row) ∧ ∀ q, q < r → At T k (S b ps (q + 1) row)
theorem Cond.lt {RA RB : List (Nat × Option Nat)} {r : Nat} (h : Cond ps RA RB r) : r < ps.length := by
  obtain ⟨_, _, _, _, _, _, e, _⟩ := h
  exact (List.getElem?_eq_some_iff.mp e).1
theorem PL.upto (h : PL b ps T) {l m : Nat} (hl : l < b + ps.length) (hm : m < b + ps.length) {LA LB : List (Nat × Option Nat)} (sa : Spn Prod.snd b ps l LA) (sb : Spn Prod.fst b ps m LB) :
    ∀ r, r ≤ ps.length → (∀ q, q < r → ¬ Cond ps ((l, none) :: LA) ((m, none) :: LB) q) → S b ps r (tx T l ++ tx T m) = S b ps r (tx T l) ++ S b ps r (tx T m)
  | 0, _, _ => rfl
  | r + 1, hr, hc => (h.stage hl hm sa sb (by omega) (h.upto hl hm sa sb r (by omega) fun q hq => hc q (by omega))).2 (hc r (by omega))
theorem PL.at_of (h : PL b ps T) {l m r : Nat} (hl : l < b + ps.length) (hr : r ≤ ps.length) (ha : S b ps r (tx T l ++ tx T m) = S b ps r (tx T l) ++ S b ps r (tx T m)) : At T (tx T l).length (S b ps r (tx T l ++ tx T m)) := by
  rw [ha]
  exact ⟨_, _, S_ne_nil (h.tx_ne l hl) r hr, rfl, by rw [h.txr_S _ r hr, h.txr_let _ (h.tx_lt l hl)]⟩
/-- THE THEOREM: the first stage that crosses is the lowest rank of the spines; and the cut is the two pieces just if there is none -/
theorem PL.main (h : PL b ps T) {l m : Nat} (hl : l < b + ps.length) (hm : m < b + ps.length) {LA LB : List (Nat × Option Nat)} (sa : Spn Prod.snd b ps l LA) (sb : Spn Prod.fst b ps m LB) {o : Option Nat}
    (ho : IsMin (Cond ps ((l, none) :: LA) ((m, none) :: LB)) o) :
    (∀ o', IsFC b ps T (tx T l).length (tx T l ++ tx T m) o' → o = o') ∧ (st b ps (tx T l ++ tx T m) = [l, m] ↔ o = none) := by
  have up := h.upto hl hm sa sb
  cases o with
  | none =>
    have all : ∀ r, r ≤ ps.length → S b ps r (tx T l ++ tx T m) = S b ps r (tx T l) ++ S b ps r (tx T m) := fun r hr => up r hr fun q _ => ho q
    constructor
    · intro o' ho'
      cases o' with
      | none => rfl
      | some r => exact absurd (h.at_of hl (by have := ho'.1; omega) (all (r + 1) ho'.1)) ho'.2.1
    · refine ⟨fun _ => rfl, fun _ => ?_⟩
      rw [← S_all, all _ (Nat.le_refl _), h.whole hl (Nat.le_refl _), h.whole hm (Nat.le_refl _)]
      rfl
  | some r =>
    obtain ⟨hc, hmin⟩ := ho
    have hr := hc.lt
    have ar : ∀ k, k ≤ r → S b ps k (tx T l ++ tx T m) = S b ps k (tx T l) ++ S b ps k (tx T m) := fun k hk => up k (by omega) fun q hq z => by have := hmin q z; omega
    have na := (h.stage hl hm sa sb hr (ar r (Nat.le_refl _))).1 hc
    constructor
    · intro o' ho'
      cases o' with
      | none => exact absurd (ho' r hr) na
      | some k =>
        obtain ⟨h1, h2, h3⟩ := ho'
        have : ¬ r < k := fun z => na (h3 r z)
        have : ¬ k < r := fun z => h2 (h.at_of hl (by omega) (ar (k + 1) (by omega)))
        have : k = r := by omega
        rw [this]
    · refine ⟨fun e => ?_, fun z => nomatch z⟩
      rw [← S_all] at e
      refine absurd (h.at_back ps.length (j := r + 1) (by omega) (Nat.le_refl _) ?_) na
      rw [e]
      exact ⟨[l], [m], by simp, rfl, by rw [txr_cons, txr_nil, List.append_nil]⟩

/-! ### the list grows -/
theorem tx_append {T : List (List Nat)} {t : List Nat} {p : Nat} (hp : p < T.length) : tx (T ++ [t]) p = tx T p := by
  unfold tx
  rw [List.getD_eq_getElem?_getD, List.getD_eq_getElem?_getD, List.getElem?_append_left hp]
theorem PL.push (h : PL b ps T) {l m : Nat} (hl : l < T.length) (hm : m < T.length) (hs : st b ps (tx T l ++ tx T m) = [l, m]) (h40 : (tx T l ++ tx T m).length ≤ 40) : PL b (ps ++ [(l, m)]) (T ++ [tx T l ++ tx T m]) := by
  have hlen := h.len
  refine ⟨h.pos, by simp [hlen]; omega, fun i hi => ?_, fun r x y e => ?_⟩
  · rw [List.getElem?_append_left (by omega)]; exact h.lett i hi
  · by_cases c : r < ps.length
    · rw [List.getElem?_append_left c] at e
      have j := h.join r x y e
      have lt := h.low r x y e
      rw [tx_append (by omega), tx_append (by omega), List.getElem?_append_left (by omega), S_append (Nat.le_of_lt c)]
      exact j
    · have hr : r < (ps ++ [(l, m)]).length := (List.getElem?_eq_some_iff.mp e).1
      have : r = ps.length := by simp at hr; omega
      subst this
      rw [List.getElem?_append_right (Nat.le_refl _)] at e
      simp at e
      obtain ⟨rfl, rfl⟩ := e
      refine ⟨by omega, by omega, ?_, ?_, ?_⟩
      · rw [tx_append hl, tx_append hm, List.getElem?_append_right (by omega)]
        simp [hlen]
      · rw [tx_append hl, tx_append hm, S_append (Nat.le_refl _), S_all]
        exact hs
      · rw [tx_append hl, tx_append hm]; exact h40
theorem PL.base (hb : 0 < b) : PL b [] ((List.range b).map fun i => [i]) where
  pos := hb
  len := by simp
  lett := fun i hi => by simp [hi]
  join := fun r l m e => by simp at e
end
end RJ

set_option Elab.async false
set_option maxRecDepth 100000
/-! RJBase: the text by places, further rules (enumerate over a text, list(text)), the heap's words. -/
namespace RJ
open PySem L2
def top (i : Nat) : Stmt := PySem.Challenge.pw_rankedjoins_k18_whole_pairs_are_told_by.main.body.getD i (.Pass ⟨0, 0, 0, 0⟩)
abbrev sRight : Stmt := top 2
abbrev sLeft : Stmt := top 3
abbrev sCross : Stmt := top 4
abbrev sSide : Stmt := top 5
abbrev sBetween : Stmt := top 16
abbrev sIsAlph : Stmt := top 17
abbrev sChecked : Stmt := top 18
abbrev sPut : Stmt := top 19
abbrev sLowest : Stmt := top 20
abbrev sCutRow : Stmt := top 21
abbrev sInit : Stmt := inClass (top 22) 0
abbrev sTake : Stmt := inClass (top 22) 1
abbrev sProper : Stmt := inClass (top 22) 2
abbrev sIsPiece : Stmt := inClass (top 22) 4
abbrev sCheck : Stmt := inClass (top 22) 5
abbrev sParts : Stmt := inClass (top 22) 7
abbrev sPieceOf : Stmt := inClass (top 22) 9
abbrev sLetters : Stmt := top 24
abbrev sCut : Stmt := top 25
abbrev sNumbers : Stmt := top 27
abbrev sSame : Stmt := top 28
abbrev sAlph : Stmt := top 29
abbrev sJoinAll : Stmt := top 30
abbrev sStaged : Stmt := top 31
abbrev sLLetters : Stmt := top 32
abbrev sLProper : Stmt := top 33
abbrev sList : Stmt := top 34
abbrev sChain : Stmt := top 35
abbrev sEnds : Stmt := top 36
abbrev sFirst : Stmt := top 37
abbrev sLaw : Stmt := top 38

/-! ### enumerate over a text -/
def Ites (x : Str) : It := ⟨fun i _ => i < x.cps.size, fun i H v H' => ∃ T c, v = .ref T ∧ H T = none ∧ x.cps[i]? = some c ∧ H' = upd H T (.tup [.int (i : Nat), .str ⟨#[c]⟩]), fun i _ => x.cps.size ≤ i⟩
theorem turn_enumS {P : Program} {w : World} {K : PySem.W.Frag} {elts : List Expr} {kk : Nat} {tpos : Pos} (x : Str) (t : Tok) (e it : Addr) :
    Turn P w K (.Tuple elts kk tpos) (Ites x) [e, it] e (fun i h => i ≤ x.cps.size ∧ (∃ old, IsEnum h e it ((i : Nat) : Int) old) ∧ h.IsStrIter it (strIterType x) x t i ∧ e ≠ it) where
  mem := by simp
  obj := fun i h st b hb => by
    obtain ⟨_, ⟨old, he⟩, ⟨o, ho, hc, hd⟩, _⟩ := st
    have e' : b = e ∨ b = it := by simpa using hb
    rcases e' with z | z
    · rw [z]; exact ⟨_, he, fun v q => nomatch q⟩
    · rw [z]; exact ⟨o, ho, fun v q => by rw [hd] at q; cases q⟩
  keep := fun i h h' st k => let ⟨hi0, ⟨old, he⟩, hi, hne⟩ := st; ⟨hi0, ⟨old, k e (by simp) _ he⟩, (let ⟨o, ho, r⟩ := hi; ⟨o, k it (by simp) o ho, r⟩), hne⟩
  item := by
    intro X hP hw hK hc i pins s σ H E I hf st hg
    subst hP hw hK
    obtain ⟨hi0, ⟨old, he⟩, hit, hne⟩ := st
    have hg : i < x.cps.size := hg
    have hel : e < s.heap.objs.size := Heap.lt_size he
    have hil : it < s.heap.objs.size := by obtain ⟨_, q, _⟩ := hit; exact Heap.lt_size q
    have hei : e ∉ [it] := by simp [hne]
    have D := Draws.text (prog := X.prog) (w := X.w) (A := X.A.in1) (I.ok.hd hc) it x t
    refine wpAny_pyNext_enum_itemD D he hit hg hne hei fun u h' tk hP ho hit' hT hsz hk => ?_
    obtain ⟨c, uu, hcx, rfl⟩ := hP
    refine ⟨_, rfl, wpAny_letOwnedTupleGo_enum (s := { s with heap := h', toks := tk + 1 }) ho fun h'' he' sb => ?_⟩
    have hT2 : h''.get? s.heap.objs.size = some { cls := .type "tuple", data := .seq #[.int i tk, .str ⟨#[c]⟩ uu] } := (sb.2 _ (Nat.ne_of_gt hel)).trans hT
    have new : ObjOk X.prog X.w (upd H s.heap.objs.size (.tup [.int (i : Nat), .str ⟨#[c]⟩])) h'' s.heap.objs.size (.tup [.int (i : Nat), .str ⟨#[c]⟩]) :=
      ⟨by show 2 ≤ sizeLine; decide, [.int i tk, .str ⟨#[c]⟩ uu], .cons ⟨_, rfl⟩ (.cons ⟨_, rfl⟩ .nil), ⟨_, hT2, rfl, _, rfl⟩⟩
    have I1 : Inv X pins σ (upd H s.heap.objs.size (.tup [.int (i : Nat), .str ⟨#[c]⟩])) { s with heap := h'', toks := tk + 1 } :=
      I.turnedNew (ch := [e, it]) (fun b ob hb q => (sb.2 b (fun z => hb (by simp [z]))).trans (hk b ob (fun z => hb (by simp [z])) (fun z => hb (by simp [z])) q)) hf (Nat.le_refl _) new
    refine ⟨.ref s.heap.objs.size, _, I1, rfl, ⟨_, c, rfl, I.hok.fresh (Nat.le_refl _), hcx, rfl⟩, ⟨hg, ⟨.str ⟨#[c]⟩ uu, ?_⟩, (let ⟨o, q, r⟩ := hit'; ⟨o, (sb.2 it (Ne.symm hne)).trans q, r⟩), hne⟩, fun b hb => ?_⟩
    · have e1 : ((i + 1 : Nat) : Int) = (i : Int) + 1 := by omega
      rw [e1]; exact he'
    · have hb' : b < s.heap.objs.size := by
        have e' : b = e ∨ b = it := by simpa using hb
        rcases e' with z | z
        · rw [z]; exact hel
        · rw [z]; exact hil
      rw [upd_ne (Nat.ne_of_lt hb')]
      exact (hf b hb).1
  done := by
    intro X hP hw hK hc i pins s σ H E I hf st hg
    subst hP hw hK
    obtain ⟨hi0, ⟨old, he⟩, hit, hne⟩ := st
    have hg : x.cps.size ≤ i := hg
    have e1 : i = x.cps.size := by omega
    subst e1
    obtain ⟨f0, f1, f2, f3, f4, f5⟩ := hf it (by simp)
    have D := Draws.text (prog := X.prog) (w := X.w) (A := X.A.in1) (I.ok.hd hc) it x t
    exact wpAny_pyNext_enum_endD D he hit fun h' eb => ⟨rfl, I.turned (t' := s.toks) (fun b o hb q => eb b o hb q) f0 f1 f3 f4 f5⟩
  self := fun A i s Q E st h => let ⟨_, ⟨_, he⟩, _⟩ := st; wpAny_pyIter_enum he h
def iEnumS (ta : TA) : TI := fun σ H R => ta σ H fun vs H1 => ∃ x, vs = [.str x] ∧ R (Ites x) H1
theorem pi_enumS {X : Cx} {e : Expr} {ta : TA} {p pos tpos : Pos} {elts : List Expr} {kk : Nat} (hg : Gl X "enumerate") (hm : X.mg "enumerate" = none) (ha : PA X [e] ta) (hs : starEach [e] X.env = [(false, eval e X.env)] := by rfl) :
    PI X (.Tuple elts kk tpos) (.Call (.Name "enumerate" p) [e] [] pos) (iEnumS ta) := by
  refine ⟨fun pins s σ H R I h => ?_⟩
  refine PyProof.Rows.Call_ (ld_blt I hg hm PyProof.Rows.boot_enumerate (PyProof.Rows.callWith_type1 (thn (ha.run pos pins s σ H _ I h) fun us s1 ⟨vs, H1, I1, r1, q1⟩ => ?_) hs rfl))
  obtain ⟨x, ex, q⟩ := q1
  subst ex
  obtain ⟨u, rfl, t, rfl⟩ := vals1 r1
  refine call_enumerate_str fun h' he hit hsz hk => wpAny_pyIter_enum he ?_
  have I2 : Inv X pins σ H1 { s1 with heap := h' } := I1.kept (t' := s1.toks) hk
  refine ⟨s1.heap.objs.size + 1, [s1.heap.objs.size + 1, s1.heap.objs.size], _, _, H1, rfl, I2, turn_enumS x t (s1.heap.objs.size + 1) s1.heap.objs.size, ⟨Nat.zero_le _, ⟨.none, he⟩, hit, Nat.succ_ne_self _⟩, fun b hb => ?_, q⟩
  have e' : b = s1.heap.objs.size + 1 ∨ b = s1.heap.objs.size := by simpa using hb
  have hle : s1.heap.objs.size ≤ b := by
    rcases e' with z | z
    · rw [z]; exact Nat.le_add_right _ _
    · rw [z]; exact Nat.le_refl _
  exact I1.fpOk hle (I1.hok.fresh hle)
theorem walk_enumS {z : Str} : Walk (Ites z) z.cps.size (fun _ => True) (fun i H v H' => ∃ T c, v = .ref T ∧ H T = none ∧ z.cps[i]? = some c ∧ H' = upd H T (.tup [.int (i : Nat), .str ⟨#[c]⟩])) :=
  ⟨fun _ _ hi _ => hi, fun _ _ => Nat.le_refl _, fun _ _ _ _ _ _ y => y⟩

/-- a dict comprehension over anything that is walked -/
theorem dc_it {J : It} {n : Nat} {G : Hp → Prop} {Y : Nat → Hp → V → Hp → Prop} (w : Walk J n G Y) {g : TG} {tt : TT} {tk tv : TE} {vs : List Nat} {σ : St} {H1 : Hp} {D : Addr} {Qd : Hp → Prop} (Pv : Nat → Hp → Prop) (h0 : Pv 0 (upd H1 D (.dK []))) (hG : ∀ i H, i ≤ n → Pv i H → G H)
    (hs : ∀ i x H H', i < n → Pv i H → Y i H x H' → g x (wipe σ vs) H' fun σ2 H2 => wipe σ2 vs = wipe σ vs ∧ tt σ2 H2 fun b H3 =>
      if b = true then tk σ2 H3 fun y H4 => tv σ2 H4 fun z H5 => ∃ kvs k, y = kV k ∧ H5 D = some (.dK kvs) ∧ kvs.length < sizeLine ∧ Pv (i + 1) (upd H5 D (.dK (putK kvs k z))) else Pv (i + 1) H3) (hd : ∀ H, Pv n H → Qd H) :
    ∃ W : Nat → Nat → Hp → Prop, (∃ m, W 0 m (upd H1 D (.dK []))) ∧ ∀ i m H, W i m H →
      (J.stop i H ∧ Qd H) ∨ (J.go i H ∧ ∃ Nx : Hp → Prop, (∀ H', Nx H' → ∃ m', m' < m ∧ W (i + 1) m' H') ∧ ∀ x H', J.yld i H x H' → g x (wipe σ vs) H' fun σ2 H2 => wipe σ2 vs = wipe σ vs ∧ tt σ2 H2 fun b H3 =>
        if b = true then tk σ2 H3 fun y H4 => tv σ2 H4 fun z H5 => ∃ kvs k, y = kV k ∧ H5 D = some (.dK kvs) ∧ kvs.length < sizeLine ∧ Nx (upd H5 D (.dK (putK kvs k z))) else Nx H3) := by
  refine ⟨fun i m H => m = n - i ∧ i ≤ n ∧ Pv i H, ⟨n, by simp, Nat.zero_le _, h0⟩, ?_⟩
  rintro i m H ⟨rfl, hi, p⟩
  have q := hG i H hi p
  by_cases hlt : i < n
  · refine .inr ⟨w.goes i H hlt q, Pv (i + 1), fun H' p' => ⟨n - (i + 1), by omega, rfl, hlt, p'⟩, fun x H' y => hs i x H H' hlt p (w.yields i H x H' hlt q y)⟩
  · have e : i = n := by omega
    subst e
    exact .inl ⟨w.stops H q, hd H p⟩

/-- list(text) -/
theorem vals_signs {l : List Nat} : ∀ (us : List Value), us.length = l.length → (∀ (j : Nat) (v : Value), us[j]? = some v → ∃ c u, l[j]? = some c ∧ v = Value.str ⟨#[c]⟩ u) → Vals (l.map fun c => V.str ⟨#[c]⟩) us := by
  induction l with
  | nil =>
    intro us h _
    cases us with
    | nil => exact .nil
    | cons a r => simp at h
  | cons c l ih =>
    intro us h f
    cases us with
    | nil => simp at h
    | cons a r =>
      refine .cons ?_ (ih r (by simpa using h) fun j v e => by simpa using f (j + 1) v (by simpa using e))
      obtain ⟨c', u, e1, e2⟩ := f 0 a rfl
      have : c = c' := by simpa using e1
      subst this
      exact ⟨u, e2⟩
theorem call_listS {X : Cx} (hc : X.calm = true) : CallR X (.type "list") (fun xs H Q => ∃ z : Str, xs = [.str z] ∧ z.cps.size ≤ sizeLine ∧ ∀ l, H l = none → Q (.ref l) (upd H l (.lst (z.cps.toList.map fun c => V.str ⟨#[c]⟩)))) := by
  intro pins s σ H xs us Q I r h
  obtain ⟨z, rfl, hz, q⟩ := h
  obtain ⟨u, rfl, t, rfl⟩ := vals1 r
  refine call_list_str (I.ok.hd hc) z t (fun h' tk acc' c' hk hS hacc => ?_) hz
  obtain ⟨hsz, hat⟩ := hacc
  have hv : Vals (z.cps.toList.map fun c => V.str ⟨#[c]⟩) acc'.toList := by
    refine vals_signs _ (by simp [hsz]) fun j v e => ?_
    obtain ⟨c, u, e1, e2⟩ := hat j v (by simpa using e)
    exact ⟨c, u, by simpa using e1, e2⟩
  exact ⟨.ref s.heap.objs.size, _, I.laid (t' := tk) hk (Nat.le_refl _) (show ObjOk X.prog X.w _ h' _ (.lst (z.cps.toList.map fun c => V.str ⟨#[c]⟩)) from ⟨by simp; exact hz, acc'.toList, c', hv, by simpa using hS⟩), rfl, q _ (I.hok.fresh (Nat.le_refl _))⟩

/-! ### heaps -/
theorem Same_put {H0 H : Hp} {p : Addr} {o : HO} (s : Same H0 H) (n : H0 p = none) : Same H0 (upd H p o) := fun b u e => by
  rw [upd_ne (ne_of_none e n)]; exact s b u e
theorem Same_new {H : Hp} {p : Addr} {o : HO} (n : H p = none) : Same H (upd H p o) := Same_put (Same.refl H) n
theorem Same_nn {H0 H : Hp} {p : Addr} {o : HO} (s : Same H0 H) (n : H p = none) : Same H0 (upd H p o) := Same_put s (s.free n)
def iV (n : Nat) : V := .int (n : Int)
def rowV (l : List Nat) : List V := l.map iV
theorem rowV_get {l : List Nat} {i x : Nat} (h : l[i]? = some x) : (rowV l)[i]? = some (iV x) := by
  unfold rowV; rw [List.getElem?_map, h]; rfl
theorem rowV_len (l : List Nat) : (rowV l).length = l.length := by unfold rowV; exact List.length_map ..
theorem rowV_app (l m : List Nat) : rowV l ++ rowV m = rowV (l ++ m) := by unfold rowV; rw [List.map_append]
theorem rowV_snoc (l : List Nat) (x : Nat) : rowV l ++ [iV x] = rowV (l ++ [x]) := rowV_app l [x]
theorem rowV_inv {l : List Nat} {i : Nat} {v : V} (h : (rowV l)[i]? = some v) : ∃ x, l[i]? = some x ∧ v = iV x := by
  unfold rowV at h
  rw [List.getElem?_map] at h
  cases e : l[i]? with
  | none => rw [e] at h; cases h
  | some x => rw [e] at h; exact ⟨x, rfl, (Option.some.inj h).symm⟩
def pV (p : Nat × Nat) : List V := [iV p.1, iV p.2]
/-- the pairs ps stand at the addresses as -/
structure Prs (H : Hp) (as : List Addr) (ps : List (Nat × Nat)) : Prop where
  len : as.length = ps.length
  at_ : ∀ (i : Nat) (a : Addr) (p : Nat × Nat), as[i]? = some a → ps[i]? = some p → H a = some (.tup (pV p))
theorem Prs.same {H H' : Hp} {as : List Addr} {ps : List (Nat × Nat)} (h : Prs H as ps) (s : Same H H') : Prs H' as ps := ⟨h.len, fun i a p e1 e2 => s _ _ (h.at_ i a p e1 e2)⟩
theorem Prs.nil {H : Hp} : Prs H [] [] := ⟨rfl, fun i a p e _ => by simp at e⟩
theorem Prs.snoc {H : Hp} {as : List Addr} {ps : List (Nat × Nat)} {a : Addr} {p : Nat × Nat} (h : Prs H as ps) (e : H a = some (.tup (pV p))) : Prs H (as ++ [a]) (ps ++ [p]) := by
  have hl := h.len
  refine ⟨by simp [hl], fun i b q e1 e2 => ?_⟩
  by_cases c : i < as.length
  · rw [List.getElem?_append_left c] at e1
    rw [List.getElem?_append_left (by omega)] at e2
    exact h.at_ i b q e1 e2
  · have hi : i < (as ++ [a]).length := (List.getElem?_eq_some_iff.mp e1).1
    have : i = as.length := by simp at hi; omega
    subst this
    rw [List.getElem?_append_right (Nat.le_refl _)] at e1
    rw [List.getElem?_append_right (by omega)] at e2
    simp at e1
    simp [hl] at e2
    subst e1; subst e2
    exact e
theorem Prs.get {H : Hp} {as : List Addr} {ps : List (Nat × Nat)} (h : Prs H as ps) {i : Nat} {p : Nat × Nat} (e : ps[i]? = some p) : ∃ a, as[i]? = some a ∧ H a = some (.tup (pV p)) := by
  have hi : i < ps.length := (List.getElem?_eq_some_iff.mp e).1
  have hi' : i < as.length := by have := h.len; omega
  exact ⟨as[i], by simp [hi'], h.at_ i _ p (by simp [hi']) e⟩
def refs (as : List Addr) : List V := as.map V.ref
theorem refs_get {as : List Addr} {i : Nat} {a : Addr} (e : as[i]? = some a) : (refs as)[i]? = some (.ref a) := by
  unfold refs; rw [List.getElem?_map, e]; rfl
theorem refs_inv {as : List Addr} {i : Nat} {v : V} (h : (refs as)[i]? = some v) : ∃ a, as[i]? = some a ∧ v = .ref a := by
  unfold refs at h
  rw [List.getElem?_map] at h
  cases e : as[i]? with
  | none => rw [e] at h; cases h
  | some x => rw [e] at h; exact ⟨x, rfl, (Option.some.inj h).symm⟩
/-! ### dicts of ranks -/
def kOf (p : Nat × Nat) : List Key := [Sum.inl (p.1 : Int), Sum.inl (p.2 : Int)]
theorem kOf_map (p : Nat × Nat) : (kOf p).map kV = pV p := rfl
theorem kOf_inj {p q : Nat × Nat} (h : kOf p = kOf q) : p = q := by
  unfold kOf at h
  obtain ⟨a, b⟩ := p
  obtain ⟨c, d⟩ := q
  simp only [List.cons.injEq, Sum.inl.injEq, and_true] at h
  obtain ⟨h1, h2⟩ := h
  have e1 : a = c := by omega
  have e2 : b = d := by omega
  rw [e1, e2]
def rkF : Nat → List (Nat × Nat) → List (List Key × V)
  | _, [] => []
  | i, p :: ps => (kOf p, iV i) :: rkF (i + 1) ps
def rk (ps : List (Nat × Nat)) : List (List Key × V) := rkF 0 ps
theorem rkF_len : ∀ (ps : List (Nat × Nat)) (i : Nat), (rkF i ps).length = ps.length
  | [], _ => rfl
  | _ :: ps, i => by show (rkF (i + 1) ps).length + 1 = _; rw [rkF_len ps]; rfl
theorem rk_len (ps : List (Nat × Nat)) : (rk ps).length = ps.length := rkF_len ps 0
theorem rkF_snoc : ∀ (ps : List (Nat × Nat)) (i : Nat) (p : Nat × Nat), rkF i (ps ++ [p]) = rkF i ps ++ [(kOf p, iV (i + ps.length))]
  | [], _, _ => rfl
  | q :: ps, i, p => by
    show (kOf q, iV i) :: rkF (i + 1) (ps ++ [p]) = (kOf q, iV i) :: (rkF (i + 1) ps ++ [(kOf p, iV (i + (ps.length + 1)))])
    rw [rkF_snoc ps (i + 1) p, show i + (ps.length + 1) = i + 1 + ps.length by omega]
theorem rkF_none : ∀ (ps : List (Nat × Nat)) (i : Nat) (p : Nat × Nat), p ∉ ps → valV (rkF i ps) (kOf p) = none
  | [], _, _, _ => rfl
  | q :: ps, i, p, h => by
    show valV ((kOf q, iV i) :: rkF (i + 1) ps) (kOf p) = none
    rw [valV_neg (p := (kOf q, iV i)) (fun e => h (by rw [kOf_inj e]; simp))]
    exact rkF_none ps (i + 1) p fun z => h (by simp [z])
theorem rkF_some : ∀ (ps : List (Nat × Nat)) (i r : Nat) (p : Nat × Nat), ps[r]? = some p → (∀ q, ps[q]? = some p → q = r) → valV (rkF i ps) (kOf p) = some (iV (i + r))
  | [], _, _, _, h, _ => by simp at h
  | q :: ps, i, 0, p, h, u => by
    have e : q = p := Option.some.inj h
    subst e
    exact valV_pos rfl
  | q :: ps, i, r + 1, p, h, u => by
    show valV ((kOf q, iV i) :: rkF (i + 1) ps) (kOf p) = _
    rw [valV_neg (p := (kOf q, iV i)) (fun e => by
      have e' := kOf_inj e
      subst e'
      have := u 0 rfl
      omega)]
    rw [rkF_some ps (i + 1) r p (by simpa using h) fun q' hq' => by have := u (q' + 1) (by simpa using hq'); omega, show i + 1 + r = i + (r + 1) by omega]
/-- no pair twice -/
def ND (ps : List (Nat × Nat)) : Prop := ∀ (q r : Nat) (p : Nat × Nat), ps[q]? = some p → ps[r]? = some p → q = r
theorem rk_some {ps : List (Nat × Nat)} (nd : ND ps) {r : Nat} {p : Nat × Nat} (h : ps[r]? = some p) : valV (rk ps) (kOf p) = some (iV r) := by
  have := rkF_some ps 0 r p h fun q hq => nd q r p hq h
  rw [Nat.zero_add] at this; exact this
theorem rk_none {ps : List (Nat × Nat)} {p : Nat × Nat} (h : p ∉ ps) : valV (rk ps) (kOf p) = none := rkF_none ps 0 p h
theorem rk_cases {ps : List (Nat × Nat)} (nd : ND ps) (p : Nat × Nat) : (p ∉ ps ∧ valV (rk ps) (kOf p) = none) ∨ ∃ r, ps[r]? = some p ∧ valV (rk ps) (kOf p) = some (iV r) := by
  by_cases c : p ∈ ps
  · obtain ⟨r, h⟩ := List.mem_iff_getElem?.mp c
    exact .inr ⟨r, h, rk_some nd h⟩
  · exact .inl ⟨c, rk_none c⟩
theorem rk_put {ps : List (Nat × Nat)} {p : Nat × Nat} (h : p ∉ ps) : putK (rk ps) (kOf p) (iV ps.length) = rk (ps ++ [p]) := by
  rw [putK_new _ (rk_none h)]
  unfold rk
  rw [rkF_snoc, Nat.zero_add]
/-! ### texts over an alphabet (its code points) -/
def sOf (al : List Nat) (xs : List Nat) : Str := ⟨(xs.map fun i => al.getD i 0).toArray⟩
theorem sOf_app (al xs ys : List Nat) : sOf al xs ++ sOf al ys = sOf al (xs ++ ys) := by
  have := SX.S_cat (xs.map fun i => al.getD i 0) (ys.map fun i => al.getD i 0)
  unfold sOf
  rw [List.map_append]
  exact this
theorem sOf_size (al xs : List Nat) : (sOf al xs).cps.size = xs.length := by simp [sOf]
theorem sOf_len (al xs : List Nat) : (sOf al xs).length = xs.length := sOf_size al xs
theorem sOf_get {al xs : List Nat} {i x : Nat} (h : xs[i]? = some x) : (sOf al xs).cps[i]? = some (al.getD x 0) := by
  unfold sOf
  simp [h]
theorem sOf_one {al : List Nat} {i c : Nat} (h : al[i]? = some c) : sOf al [i] = ⟨#[c]⟩ := by
  unfold sOf
  rw [List.map_cons, List.map_nil, List.getD_eq_getElem?_getD, h]
  rfl
def sAl (al : List Nat) : Str := ⟨al.toArray⟩
def txV (al : List Nat) (T : List (List Nat)) : List V := T.map fun t => V.str (sOf al t)
theorem txV_len (al : List Nat) (T : List (List Nat)) : (txV al T).length = T.length := by unfold txV; exact List.length_map ..
theorem txV_get {al : List Nat} {T : List (List Nat)} {i : Nat} (h : i < T.length) : (txV al T)[i]? = some (.str (sOf al (tx T i))) := by
  have e : T[i]? = some (tx T i) := by
    unfold tx; rw [List.getD_eq_getElem?_getD]
    simp [h]
  unfold txV
  rw [List.getElem?_map, e]; rfl
end RJ

set_option Elab.async false
set_option maxRecDepth 100000
set_option maxHeartbeats 4000000
namespace RJ
open PySem L2
theorem b_len : bootBuiltins "len" = some (.builtin "len") := by decide +kernel
theorem b_isinstance : bootBuiltins "isinstance" = some (.builtin "isinstance") := by decide +kernel
theorem b_int : bootBuiltins "int" = some (.type "int") := by decide +kernel
theorem b_bool : bootBuiltins "bool" = some (.type "bool") := by decide +kernel
theorem b_str : bootBuiltins "str" = some (.type "str") := by decide +kernel
theorem b_tuple : bootBuiltins "tuple" = some (.type "tuple") := by decide +kernel
theorem b_list : bootBuiltins "list" = some (.type "list") := by decide +kernel
theorem b_min : bootBuiltins "min" = some (.builtin "min") := by decide +kernel
theorem b_max : bootBuiltins "max" = some (.builtin "max") := by decide +kernel
theorem b_abs : bootBuiltins "abs" = some (.builtin "abs") := by decide +kernel
theorem b_sorted : bootBuiltins "sorted" = some (.builtin "sorted") := by decide +kernel
/-- the built-in names are still free -/
structure Bn (mg : Str → Option Value) : Prop where
  len : mg "len" = none
  isinstance : mg "isinstance" = none
  int : mg "int" = none
  bool : mg "bool" = none
  str : mg "str" = none
  tuple : mg "tuple" = none
  list : mg "list" = none
  range : mg "range" = none
  min : mg "min" = none
  max : mg "max" = none
  abs : mg "abs" = none
  enumerate : mg "enumerate" = none
  sorted : mg "sorted" = none
theorem blT {c : Prop} [Decidable c] (h : c) : V.bl (decide c) = V.bl true := by rw [decide_eq_true h]
theorem blF {c : Prop} [Decidable c] (h : ¬ c) : V.bl (decide c) = V.bl false := by rw [decide_eq_false h]
theorem nblT {c : Prop} [Decidable c] (h : ¬ c) : V.bl (!decide c) = V.bl true := by rw [decide_eq_false h]; rfl
theorem nblF {c : Prop} [Decidable c] (h : c) : V.bl (!decide c) = V.bl false := by rw [decide_eq_true h]; rfl
theorem atN {α : Type} {xs : List α} {z : Int} {j : Nat} {v : α} (e : z = (j : Int)) (h : xs[j]? = some v) : atI xs z = some v := by rw [e]; exact atI_nat h
/-- a def of the module, called by its name -/
structure Cal (K : PySem.W.Frag) (mg : Str → Option Value) (x : Str) (st : Stmt) (f : Addr) (fd : FuncData) (ps : List Str) : Prop where
  F : Fun K x x st f fd
  g : mg x = some (.ref f)
  b : Binds K fd ps []

section
variable {P : Program} {w : World} {K : PySem.W.Frag} {mg : Str → Option Value} {base : Heap}
/-! ### is_between -/
def spBetween : Sp := fun vs H Q _ => ∃ (v lo hi : Int), vs = [.int v, .int lo, .int hi] ∧ lo ≤ v ∧ v ≤ hi ∧ Q (.bl true) H
theorem scBetween : FnScope ["value", "least", "most"] ["value", "least", "most"] (defScope sBetween) := ⟨rfl, rfl, rfl, by decide +kernel, rfl, by decide +kernel, by decide +kernel⟩
theorem ok_between {f : Addr} {fd : FuncData} (F : Fun K "is_between" "is_between" sBetween f fd) (B : Bn mg) : FnOk P w K mg base CX0 1 f fd ["value", "least", "most"] spBetween := by
  refine F.ok scBetween (fun vs H Q E h => ?_) (fun cdv A outer s H vs Q E hr h => ?_)
  · obtain ⟨v, lo, hi, rfl, _⟩ := h
    rfl
  · obtain ⟨v, lo, hi, rfl, h1, h2, k⟩ := h
    refine ⟨_, pss_one (ps_ret (pe_and (pe_callB call_isi (by rfl) B.isinstance b_isinstance (pa_cons (pv 0) (pa_cons (pe_bltn (v := .ty "int") (by rfl) B.int b_int rfl) pa_nil)))
      (pe_and (pe_not (pe_callB call_isi (by rfl) B.isinstance b_isinstance (pa_cons (pv 0) (pa_cons (pe_bltn (v := .ty "bool") (by rfl) B.bool b_bool rfl) pa_nil))))
        (pe_one (pe_chain op_le op_le (pv 1) (pv 0) (pv 2)))))), ?_⟩
    refine ⟨_, rfl, _, _, _, _, true, rfl, .ty _, .base (.int _), kit_ty (by decide +kernel), true, rfl, iteT ?_⟩
    refine ⟨_, rfl, _, _, _, _, false, rfl, .ty _, .base (.int _), kit_ty (by decide +kernel), false, rfl, true, rfl, iteT ?_⟩
    refine ⟨_, rfl, _, rfl, _, _, rfl, rfl, true, (blT h1), iteT ⟨_, rfl, _, _, rfl, rfl, ?_⟩⟩
    show Q (.bl (decide (v ≤ hi))) _
    rw [decide_eq_true h2]
    exact k

/-! ### is_alphabet -/
/-- ascending signs from the blank to the tilde -/
structure Alph (al : List Nat) : Prop where
  pos : 0 < al.length
  le : al.length ≤ 30
  lo : ∀ c ∈ al, 32 ≤ c ∧ c ≤ 126
  asc : ∀ i, i + 1 < al.length → al.getD i 0 < al.getD (i + 1) 0
def spIsAlph : Sp := fun vs H Q _ => ∃ (al : List Nat), vs = [.str (sAl al)] ∧ Alph al ∧ Q (.bl true) H
theorem scIsAlph : FnScope ["alphabet", "sign", "at"] ["alphabet"] (defScope sIsAlph) := ⟨rfl, rfl, rfl, by decide +kernel, rfl, by decide +kernel, by decide +kernel⟩
theorem cp_lt {a b : Nat} : (⟨#[a]⟩ : Str).cps.toList < (⟨#[b]⟩ : Str).cps.toList ↔ a < b := by
  show [a] < [b] ↔ a < b
  rw [List.cons_lt_cons_iff]
  constructor
  · rintro (h | ⟨_, h⟩)
    · exact h
    · exact absurd h (by simp)
  · intro h; exact .inl h
theorem sAl_get {al : List Nat} {i : Nat} (h : i < al.length) : (sAl al).cps.toList[i]? = some (al.getD i 0) := by
  show al[i]? = _
  rw [List.getD_eq_getElem?_getD]
  simp [h]
theorem ok_isAlph {f : Addr} {fd : FuncData} (F : Fun K "is_alphabet" "is_alphabet" sIsAlph f fd) (B : Bn mg) {tk : Tok} (hM : mg "MOST_LETTERS" = some (.int 30 tk)) : FnOk P w K mg base CX0 1 f fd ["alphabet"] spIsAlph := by
  refine F.ok scIsAlph (fun vs H Q E h => ?_) (fun cdv A outer s H vs Q E hr h => ?_)
  · obtain ⟨al, rfl, _⟩ := h
    rfl
  · obtain ⟨al, rfl, hA, k⟩ := h
    have hsz : (sAl al).length = al.length := rfl
    have hle := hA.le
    have hpos := hA.pos
    have hlen : (sAl al).length ≤ sizeLine := by rw [hsz, sizeLine_eq]; omega
    refine ⟨_, pss_cons (ps_if (pt_not (pt_chain op_le op_le pe_int (pe_callB call_len_str (by rfl) B.len b_len (pa_cons (pv 0) pa_nil)) (pe_glob (v := .int 30) (by rfl) hM ⟨_, rfl⟩))) (pss_one (ps_ret pe_bl)) pss_nil)
      (pss_cons (ps_for PassesOwn.never rfl (pi_str (pv 0)) (pg_name (i := 1) scIsAlph.nd rfl (Or.inl rfl))
        (pss_one (ps_if (pt_not (pt_chain op_le_str op_le_str pe_str (pv 1) pe_str)) (pss_one (ps_ret pe_bl)) pss_nil)))
      (pss_cons (ps_for PassesOwn.never rfl (pi_range2 (by rfl) B.range (pa_cons pe_int (pa_cons (pe_callB call_len_str (by rfl) B.len b_len (pa_cons (pv 0) pa_nil)) pa_nil))) (pg_name (i := 2) scIsAlph.nd rfl (Or.inl rfl))
        (pss_one (ps_if (pt_cmpR op_ge_str (pe_ix ix_str (pv 0) (pe_op op_sub (pv 2) pe_int) (fun _ _ => rfl)) (pe_ix ix_str (pv 0) (pv 2) (fun _ _ => rfl)) (nomark _)) (pss_one (ps_ret pe_bl)) pss_nil)))
      (pss_one (ps_ret pe_bl)))), ?_⟩
    -- 1 <= len(alphabet) <= 30
    refine ⟨_, rfl, _, rfl, hlen, _, _, rfl, rfl, true, (blT (by rw [hsz]; omega)), iteT ⟨_, _, rfl, rfl, true, (blT (by rw [hsz]; omega)), ?_⟩⟩
    refine iteF ?_
    -- the signs
    refine ⟨_, rfl, _, rfl, for_it walk_str (fun i σ H' => ∃ v, σ = [some (.str (sAl al)), v, none] ∧ H' = H) ⟨none, rfl, rfl⟩ (fun _ _ _ _ _ => True.intro) ?_ ?_⟩
    · rintro i x σ H1 H2 hi ⟨v, rfl, rfl⟩ ⟨rfl, c, hc, rfl⟩
      have hcm : c ∈ al := by
        have : al[i]? = some c := by simpa [sAl] using hc
        exact List.mem_of_getElem? this
      obtain ⟨l1, l2⟩ := hA.lo c hcm
      have n1 : ¬ ((⟨#[c]⟩ : Str).cps.toList < (" " : Str).cps.toList) := fun z => by rw [show (" " : Str) = ⟨#[32]⟩ by decide +kernel] at z; have := cp_lt.mp z; omega
      have n2 : ¬ (("~" : Str).cps.toList < (⟨#[c]⟩ : Str).cps.toList) := fun z => by rw [show ("~" : Str) = ⟨#[126]⟩ by decide +kernel] at z; have := cp_lt.mp z; omega
      refine ⟨_, rfl, _, _, rfl, rfl, true, (nblT n1), iteT ⟨_, _, rfl, rfl, true, (nblT n2), iteF ?_⟩⟩
      exact ⟨_, rfl, rfl⟩
    · rintro σ H1 ⟨v, rfl, rfl⟩
      -- ascending
      refine ⟨_, rfl, _, rfl, hlen, _, _, rfl, ⟨by decide, by decide, by rw [hsz]; omega, by rw [hsz]; omega⟩, for_range (lo := 1) (n := ((((sAl al).length : Nat) : Int) - 1).toNat) (fun i σ H' => ∃ v2, σ = [some (.str (sAl al)), v, v2] ∧ H' = H1) ⟨none, rfl, rfl⟩ ?_ ?_⟩
      · rintro i σ H2 hi ⟨v2, rfl, rfl⟩
        rw [hsz] at hi
        have hi2 : i + 1 < al.length := by omega
        have as := hA.asc i hi2
        have e1 : atI (sAl al).cps.toList (1 + (i : Int) - 1) = some (al.getD i 0) := atN (j := i) (by omega) (sAl_get (i := i) (by omega))
        have e2 : atI (sAl al).cps.toList (1 + (i : Int)) = some (al.getD (i + 1) 0) := atN (j := i + 1) (by omega) (sAl_get (i := i + 1) hi2)
        refine ⟨_, rfl, _, rfl, _, _, rfl, rfl, _, _, _, rfl, rfl, hlen, e1, _, rfl, _, rfl, _, _, _, rfl, rfl, hlen, e2, _, _, rfl, rfl, false, (nblF (cp_lt.mpr as)), iteF ?_⟩
        exact ⟨_, rfl, rfl⟩
      · rintro σ H2 ⟨v2, rfl, rfl⟩
        exact k
end
end RJ

set_option Elab.async false
set_option maxRecDepth 100000
set_option maxHeartbeats 4000000
namespace RJ
open PySem L2
/-! ### == of rows -/
def rowD (l : List Nat) : List PyData := l.map fun (n : Nat) => PyData.int (n : Int)
theorem dpRow {K : PySem.W.Frag} {H : Hp} : ∀ l : List Nat, DpAll K H (rowV l) (rowD l)
  | [] => .nil
  | n :: l => .cons (.int n) (dpRow l)
theorem eqv_row : ∀ l m : List Nat, PyData.eqvAll (rowD l) (rowD m) = decide (l = m)
  | [], [] => by simp [rowD, PyData.eqvAll]
  | [], b :: m => by simp [rowD, PyData.eqvAll]
  | a :: l, [] => by simp [rowD, PyData.eqvAll]
  | a :: l, b :: m => by
    have ih := eqv_row l m
    show (PyData.eqv (.int (a : Int)) (.int (b : Int)) && PyData.eqvAll (rowD l) (rowD m)) = _
    rw [ih]
    have e : PyData.eqv (.int (a : Int)) (.int (b : Int)) = decide (a = b) := by
      simp only [PyData.eqv]
      rw [Bool.eq_iff_iff]
      simp
      omega
    rw [e]
    rw [Bool.eq_iff_iff]
    simp
theorem lay_row : ∀ l : List Nat, PyData.canLayAll0 (rowD l) = true ∧ PyData.depthAll (rowD l) = 0
  | [] => ⟨by simp [rowD, PyData.canLayAll0], by simp [rowD, PyData.depthAll]⟩
  | a :: l => by
    obtain ⟨h1, h2⟩ := lay_row l
    refine ⟨?_, ?_⟩
    · show (PyData.canLay0 (.int (a : Int)) && PyData.canLayAll0 (rowD l)) = true
      rw [h1]; simp [PyData.canLay0]
    · show max (PyData.depth (.int (a : Int))) (PyData.depthAll (rowD l)) = 0
      rw [h2]; simp [PyData.depth]
theorem shaped_tup (l : List Nat) : SeqAt.shaped (.tuple (rowD l)) = true := by
  obtain ⟨h1, h2⟩ := lay_row l
  unfold SeqAt.shaped
  have e1 : PyData.canLay0 (.tuple (rowD l)) = true := by simp only [PyData.canLay0]; exact h1
  have e2 : PyData.depth (.tuple (rowD l)) = 1 := by simp only [PyData.depth]; rw [h2]
  rw [e1, e2]; rfl
theorem shaped_lst (l : List Nat) : SeqAt.shaped (.list (rowD l)) = true := by
  obtain ⟨h1, h2⟩ := lay_row l
  unfold SeqAt.shaped
  have e1 : PyData.canLay0 (.list (rowD l)) = true := by simp only [PyData.canLay0]; exact h1
  have e2 : PyData.depth (.list (rowD l)) = 1 := by simp only [PyData.depth]; rw [h2]
  rw [e1, e2]; rfl
theorem eq_tt {K : PySem.W.Frag} {H : Hp} {a b : Addr} {l m : List Nat} {Q : VK} (ha : H a = some (.tup (rowV l))) (hb : H b = some (.tup (rowV m))) (q : Q (.bl (decide (l = m))) H) : rEqD K (.ref a) (.ref b) H Q := by
  refine ⟨_, _, .tup (SqT.of ha) (dpRow l), .tup (SqT.of hb) (dpRow m), shaped_tup l, shaped_tup m, ?_⟩
  have e : PyData.eqv (.tuple (rowD l)) (.tuple (rowD m)) = decide (l = m) := by simp only [PyData.eqv]; exact eqv_row l m
  rw [e]; exact q
theorem eq_ll {K : PySem.W.Frag} {H : Hp} {a b : Addr} {l m : List Nat} {Q : VK} (ha : H a = some (.lst (rowV l))) (hb : H b = some (.lst (rowV m))) (q : Q (.bl (decide (l = m))) H) : rEqD K (.ref a) (.ref b) H Q := by
  refine ⟨_, _, .lst (SqL.of ha) (dpRow l), .lst (SqL.of hb) (dpRow m), shaped_lst l, shaped_lst m, ?_⟩
  have e : PyData.eqv (.list (rowD l)) (.list (rowD m)) = decide (l = m) := by simp only [PyData.eqv]; exact eqv_row l m
  rw [e]; exact q
theorem pV_row (p : Nat × Nat) : pV p = rowV [p.1, p.2] := rfl
theorem dec_pair {x y : Nat} {p : Nat × Nat} : decide ([x, y] = [p.1, p.2]) = decide ((x, y) = p) := by
  obtain ⟨a, b⟩ := p
  rw [Bool.eq_iff_iff]; simp
theorem drop_get {l : List Nat} {i x : Nat} (h : l[i]? = some x) : l.drop i = x :: l.drop (i + 1) := by
  obtain ⟨hi, e⟩ := List.getElem?_eq_some_iff.mp h
  rw [List.drop_eq_getElem_cons hi, e]
theorem adj_ix : ∀ {x y : Nat} {row : List Nat}, Adj x y row ↔ ∃ i, row[i]? = some x ∧ row[i + 1]? = some y
  | x, y, [] => by simp [Adj]
  | x, y, [a] => by simp [Adj]
  | x, y, a :: c :: r => by
    have ih := @adj_ix x y (c :: r)
    constructor
    · rintro (⟨rfl, rfl⟩ | h)
      · exact ⟨0, rfl, rfl⟩
      · obtain ⟨i, h1, h2⟩ := ih.mp h
        exact ⟨i + 1, by simpa using h1, by simpa using h2⟩
    · rintro ⟨i, h1, h2⟩
      cases i with
      | zero => exact .inl ⟨by simpa using h1, by simpa using h2⟩
      | succ i => exact .inr (ih.mpr ⟨i, by simpa using h1, by simpa using h2⟩)
theorem nd_of {c : Prop} [Decidable c] (h : ¬ decide c = true) : ¬ c := fun q => h (decide_eq_true q)
theorem small_line {n : Nat} (h : n ≤ 100000) : n ≤ sizeLine := by rw [sizeLine_eq]; omega
theorem small_lt {n : Nat} (h : n ≤ 100000) : n < sizeLine := by rw [sizeLine_eq]; omega

section
variable {P : Program} {w : World} {K : PySem.W.Frag} {mg : Str → Option Value} {base : Heap}
/-! ### checked_alphabet -/
def spChecked : L2.Sp := fun vs H Q _ => ∃ (al : List Nat), vs = [.str (sAl al)] ∧ Alph al ∧ Q (.str (sAl al)) H
theorem scChecked : FnScope ["alphabet"] ["alphabet"] (defScope sChecked) := ⟨rfl, rfl, rfl, by decide +kernel, rfl, by decide +kernel, by decide +kernel⟩
theorem ok_checked {f g : Addr} {fd gd : FuncData} (F : Fun K "checked_alphabet" "checked_alphabet" sChecked f fd) (C : Cal K mg "is_alphabet" sIsAlph g gd ["alphabet"]) (G : FnOk P w K mg base CX0 1 g gd ["alphabet"] spIsAlph) : FnOk P w K mg base CX0 2 f fd ["alphabet"] spChecked := by
  refine F.ok scChecked (fun vs H Q E h => ?_) (fun cdv A outer s H vs Q E hr h => ?_)
  · obtain ⟨al, rfl, _⟩ := h
    rfl
  · obtain ⟨al, rfl, hA, k⟩ := h
    refine ⟨_, pss_cons (ps_if (pt_not (pt_val (pe_call G hr (by rfl) C.g C.F.kp C.b .nil pass0 (pa_cons (pv 0) pa_nil)))) (pss_one ps_never) pss_nil) (pss_one (ps_ret (pv 0))), ?_⟩
    exact ⟨_, rfl, al, rfl, hA, true, rfl, iteF ⟨_, rfl, k⟩⟩

/-! ### put_together -/
def spPut : L2.Sp := fun vs H Q _ => ∃ (r p : Addr) (row : List Nat) (pr : Nat × Nat) (m : Nat), vs = [.ref r, .ref p, iV m] ∧ H r = some (.tup (rowV row)) ∧ H p = some (.tup (pV pr)) ∧ row.length ≤ 1000 ∧
  ∀ (H' : Hp) (q : Addr), Same H H' → H' q = some (.tup (rowV (pt pr m row))) → Q (.ref q) H'
theorem scPut : FnScope ["row", "pair", "piece", "found", "at"] ["row", "pair", "piece"] (defScope sPut) := ⟨rfl, rfl, rfl, by decide +kernel, rfl, by decide +kernel, by decide +kernel⟩
theorem ok_put {f : Addr} {fd : FuncData} (F : Fun K "put_together" "put_together" sPut f fd) (B : Bn mg) : FnOk P w K mg base CX0 1 f fd ["row", "pair", "piece"] spPut := by
  refine F.ok scPut (fun vs H Q E h => ?_) (fun cdv A outer s H vs Q E hr h => ?_)
  · obtain ⟨r, p, row, pr, m, rfl, _⟩ := h
    rfl
  · obtain ⟨r, p, row, pr, m, rfl, hrow, hp, hlen, k⟩ := h
    refine ⟨_, pss_cons (ps_set (i := 3) scPut.nd rfl (Or.inl rfl) (pe_lst pa_nil)) (pss_cons (ps_set (i := 4) scPut.nd rfl (Or.inl rfl) pe_int)
      (pss_cons (ps_while PassesOwn.never (pt_cmpR op_lt (pv 4) (pe_callB call_len_seq (by rfl) B.len b_len (pa_cons (pv 0) pa_nil)) (nomark _))
        (pss_one (ps_if (PW.pt (pw_and (pt_cmpR op_lt (pe_op op_add (pv 4) pe_int) (pe_callB call_len_seq (by rfl) B.len b_len (pa_cons (pv 0) pa_nil)) (nomark _))
            (pw_and1 (pt_cmpR (op_eqD hr.units) (pe_tup (pa_cons (pe_ix ix_tup (pv 0) (pv 4) (fun _ _ => rfl)) (pa_cons (pe_ix ix_tup (pv 0) (pe_op op_add (pv 4) pe_int) (fun _ _ => rfl)) pa_nil))) (pv 1) (nomark _)))))
          (pss_cons (ps_expr (pe_bm PySem.F.plainAttrs_list PySem.F.slot_list_append PySem.F.type_list_append mt_append (pv 3) (pa_cons (pv 2) pa_nil))) (pss_one (ps_aug (i := 4) scPut.nd rfl (Or.inl rfl) pe_int ip_add)))
          (pss_cons (ps_expr (pe_bm PySem.F.plainAttrs_list PySem.F.slot_list_append PySem.F.type_list_append mt_append (pv 3) (pa_cons (pe_ix ix_tup (pv 0) (pv 4) (fun _ _ => rfl)) pa_nil))) (pss_one (ps_aug (i := 4) scPut.nd rfl (Or.inl rfl) pe_int ip_add))))))
      (pss_one (ps_ret (pe_callTy call_tuple_of (by rfl) B.tuple b_tuple (pa_cons (pv 3) pa_nil)))))), ?_⟩
    refine ⟨Nat.zero_le _, fun l hl => ?_⟩
    refine ⟨fun M σ H' => ∃ (at_ : Nat) (acc : List Nat), M = row.length - at_ ∧ σ = [some (.ref r), some (.ref p), some (iV m), some (.ref l), some (iV at_)] ∧ Same H H' ∧ H' l = some (.lst (rowV acc)) ∧ at_ ≤ row.length ∧ acc.length ≤ at_ ∧ acc ++ pt pr m (row.drop at_) = pt pr m row,
      ⟨_, 0, [], rfl, rfl, Same_new hl, upd_same, Nat.zero_le _, Nat.le_refl _, rfl⟩, ?_⟩
    rintro M σ H' ⟨at_, acc, rfl, rfl, sm, hL, hat, hacc, hpt⟩
    have hrow' := sm _ _ hrow
    have hp' := sm _ _ hp
    refine ⟨_, rfl, _, rfl, _, _, rfl, .inr (SqT.of hrow'), _, _, rfl, rfl, _, rfl, ?_⟩
    refine ite2 (fun c => ?_) (fun c => ?_)
    · have c := of_decide_eq_true c
      have c : at_ < row.length := by rw [rowV_len] at c; omega
      refine ⟨fun σ' H'' => ∃ (a2 : Nat) (acc2 : List Nat), at_ < a2 ∧ σ' = [some (.ref r), some (.ref p), some (iV m), some (.ref l), some (iV a2)] ∧ Same H H'' ∧ H'' l = some (.lst (rowV acc2)) ∧ a2 ≤ row.length ∧ acc2.length ≤ a2 ∧ acc2 ++ pt pr m (row.drop a2) = pt pr m row,
        fun σ' H'' ⟨a2, acc2, h1, h2, h3, h4, h5, h6, h7⟩ => ⟨_, by omega, a2, acc2, rfl, h2, h3, h4, h5, h6, h7⟩, ?_⟩
      have ex : row[at_]? = some row[at_] := List.getElem?_eq_getElem c
      have hd := drop_get ex
      -- the test
      refine ⟨_, rfl, _, _, rfl, rfl, _, rfl, _, _, rfl, .inr (SqT.of hrow'), _, _, rfl, rfl, _, rfl, ?_⟩
      refine ite2 (fun c2 => ?_) (fun c2 => ?_)
      · have c2 := of_decide_eq_true c2
        have c2 : at_ + 1 < row.length := by rw [rowV_len] at c2; omega
        have ey : row[at_ + 1]? = some row[at_ + 1] := List.getElem?_eq_getElem c2
        have hd2 := drop_get ey
        refine ⟨_, rfl, _, rfl, r, _, _, _, rfl, rfl, SqT.of hrow', atN (j := at_) rfl (rowV_get ex), _, rfl, _, rfl, _, _, rfl, rfl, r, _, _, _, rfl, rfl, SqT.of hrow', atN (j := at_ + 1) (by omega) (rowV_get ey), (by show 2 ≤ sizeLine; decide), fun t ht => ?_⟩
        have sm2 : Same H (upd H' t (.tup [iV row[at_], iV row[at_ + 1]])) := Same_nn sm ht
        have nlt : l ≠ t := ne_of_none hL ht
        refine ⟨_, rfl, eq_tt (l := [row[at_], row[at_ + 1]]) (m := [pr.1, pr.2]) upd_same (sm2 _ _ hp) ⟨_, rfl, ?_⟩⟩
        rw [dec_pair]
        refine ite2 (fun e => ?_) (fun e => ?_)
        · have e := of_decide_eq_true e
          refine ⟨_, rfl, .inl ⟨rfl, _, SqL.of (by rw [upd_ne nlt]; exact hL)⟩, _, rfl, l, _, _, rfl, rfl, (by rw [upd_ne nlt]; exact hL), (by rw [rowV_len]; exact small_lt (by omega)), ?_⟩
          refine ⟨_, rfl, _, _, rfl, rfl, ?_⟩
          refine ⟨at_ + 2, acc ++ [m], by omega, rfl, Same_put sm2 hl, by rw [upd_same, rowV_snoc], by omega, by simp; omega, ?_⟩
          rw [hd, hd2, pt_yes e] at hpt
          rw [← hpt]; simp
        · have e := nd_of e
          refine ⟨_, rfl, .inl ⟨rfl, _, SqL.of (by rw [upd_ne nlt]; exact hL)⟩, _, rfl, _, rfl, r, _, _, _, rfl, rfl, SqT.of (sm2 _ _ hrow), atN (j := at_) rfl (rowV_get ex), l, _, _, rfl, rfl, (by rw [upd_ne nlt]; exact hL), (by rw [rowV_len]; exact small_lt (by omega)), ?_⟩
          refine ⟨_, rfl, _, _, rfl, rfl, ?_⟩
          refine ⟨at_ + 1, acc ++ [row[at_]], by omega, rfl, Same_put sm2 hl, by rw [upd_same, rowV_snoc], by omega, by simp; omega, ?_⟩
          rw [hd, hd2, pt_no e, ← hd2] at hpt
          rw [← hpt]; simp
      · have c2 := nd_of c2
        have c2 : at_ + 1 = row.length := by rw [rowV_len] at c2; omega
        refine iteF ?_
        refine ⟨_, rfl, .inl ⟨rfl, _, SqL.of hL⟩, _, rfl, _, rfl, r, _, _, _, rfl, rfl, SqT.of hrow', atN (j := at_) rfl (rowV_get ex), l, _, _, rfl, rfl, hL, (by rw [rowV_len]; exact small_lt (by omega)), ?_⟩
        refine ⟨_, rfl, _, _, rfl, rfl, ?_⟩
        refine ⟨at_ + 1, acc ++ [row[at_]], by omega, rfl, Same_put sm hl, by rw [upd_same, rowV_snoc], by omega, by simp; omega, ?_⟩
        have hz : row.drop (at_ + 1) = [] := by rw [c2]; exact List.drop_length
        rw [hd, hz, pt_one] at hpt
        rw [hz, pt_nil, ← hpt]; simp
    · have c := nd_of c
      have c : at_ = row.length := by rw [rowV_len] at c; omega
      have hz : row.drop at_ = [] := by rw [c]; exact List.drop_length
      rw [hz, pt_nil, List.append_nil] at hpt
      subst hpt
      refine ⟨_, rfl, l, _, rfl, .inl ⟨SqL.of hL, fun q hq => ?_⟩⟩
      exact k _ q (Same_nn sm hq) upd_same
end
end RJ

set_option Elab.async false
set_option maxRecDepth 100000
set_option maxHeartbeats 4000000
namespace RJ
open PySem L2
/-- the pair of the lowest rank among neighbors -/
def LowAt (ps : List (Nat × Nat)) (row : List Nat) (H : Hp) (v : V) : Prop :=
  (v = .non ∧ ∀ (q x y : Nat), ps[q]? = some (x, y) → ¬ Adj x y row) ∨
  ∃ (a : Addr) (q x y : Nat), v = .ref a ∧ H a = some (.tup (pV (x, y))) ∧ ps[q]? = some (x, y) ∧ Adj x y row ∧ Clear ps q row
/-- .. among the first i places -/
def LowTo (ps : List (Nat × Nat)) (row : List Nat) (i : Nat) (H : Hp) (v : V) : Prop :=
  (v = .non ∧ ∀ (j q x y : Nat), j < i → row[j]? = some x → row[j + 1]? = some y → ps[q]? ≠ some (x, y)) ∨
  ∃ (a : Addr) (q x y : Nat), v = .ref a ∧ H a = some (.tup (pV (x, y))) ∧ ps[q]? = some (x, y) ∧ Adj x y row ∧
    ∀ (j q' x' y' : Nat), j < i → row[j]? = some x' → row[j + 1]? = some y' → ps[q']? = some (x', y') → q ≤ q'
theorem LowTo.all {ps : List (Nat × Nat)} {row : List Nat} {i : Nat} {H : Hp} {v : V} (h : LowTo ps row i H v) (hi : row.length ≤ i + 1) : LowAt ps row H v := by
  rcases h with ⟨rfl, h⟩ | ⟨a, q, x, y, rfl, h1, h2, h3, h4⟩
  · refine .inl ⟨rfl, fun q x y e ha => ?_⟩
    obtain ⟨j, e1, e2⟩ := adj_ix.mp ha
    have := (List.getElem?_eq_some_iff.mp e2).1
    exact h j q x y (by omega) e1 e2 e
  · refine .inr ⟨a, q, x, y, rfl, h1, h2, h3, fun q' x' y' e ha => ?_⟩
    obtain ⟨j, e1, e2⟩ := adj_ix.mp ha
    have := (List.getElem?_eq_some_iff.mp e2).1
    exact h4 j q' x' y' (by omega) e1 e2 e
theorem LowTo.same {ps : List (Nat × Nat)} {row : List Nat} {i : Nat} {H H' : Hp} {v : V} (h : LowTo ps row i H v) (s : Same H H') : LowTo ps row i H' v := by
  rcases h with h | ⟨a, q, x, y, rfl, h1, h2⟩
  · exact .inl h
  · exact .inr ⟨a, q, x, y, rfl, s _ _ h1, h2⟩
theorem LowAt.same {ps : List (Nat × Nat)} {row : List Nat} {H H' : Hp} {v : V} (h : LowAt ps row H v) (s : Same H H') : LowAt ps row H' v := by
  rcases h with h | ⟨a, q, x, y, rfl, h1, h2⟩
  · exact .inl h
  · exact .inr ⟨a, q, x, y, rfl, s _ _ h1, h2⟩
section
variable {P : Program} {w : World} {K : PySem.W.Frag} {mg : Str → Option Value} {base : Heap}
/-! ### lowest_pair -/
def spLowest : L2.Sp := fun vs H Q _ => ∃ (d r : Addr) (ps : List (Nat × Nat)) (row : List Nat), vs = [.ref d, .ref r] ∧ H d = some (.dT (rk ps)) ∧ ND ps ∧ H r = some (.tup (rowV row)) ∧ row.length ≤ 1000 ∧
  ∀ (H' : Hp) (v : V), Same H H' → LowAt ps row H' v → Q v H'
theorem scLowest : FnScope ["ranks", "row", "best", "at", "pair"] ["ranks", "row"] (defScope sLowest) := ⟨rfl, rfl, rfl, by decide +kernel, rfl, by decide +kernel, by decide +kernel⟩
theorem ok_lowest {f : Addr} {fd : FuncData} (F : Fun K "lowest_pair" "lowest_pair" sLowest f fd) (B : Bn mg) : FnOk P w K mg base CX0 1 f fd ["ranks", "row"] spLowest := by
  refine F.ok scLowest (fun vs H Q E h => ?_) (fun cdv A outer s H vs Q E hr h => ?_)
  · obtain ⟨d, r, ps, row, rfl, _⟩ := h
    rfl
  · obtain ⟨d, r, ps, row, rfl, hd, nd, hrow, hlen, k⟩ := h
    have hu := hu_of hr
    refine ⟨_, pss_cons (ps_set (i := 2) scLowest.nd rfl (Or.inl rfl) pe_non)
      (pss_cons (ps_for PassesOwn.never rfl (pi_range1 (by rfl) B.range (pa_cons (pe_op op_sub (pe_callB call_len_seq (by rfl) B.len b_len (pa_cons (pv 1) pa_nil)) pe_int) pa_nil)) (pg_name (i := 3) scLowest.nd rfl (Or.inl rfl))
        (pss_cons (ps_set (i := 4) scLowest.nd rfl (Or.inl rfl) (pe_tup (pa_cons (pe_ix ix_tup (pv 1) (pv 3) (fun _ _ => rfl)) (pa_cons (pe_ix ix_tup (pv 1) (pe_op op_add (pv 3) pe_int) (fun _ _ => rfl)) pa_nil))))
        (pss_one (ps_if (PW.pt (pw_and (pt_cmp (pc_din hu (pv 4) (pv 0))) (pw_and1 (PW.pt (pw_or (pt_cmpR op_isN (pv 2) pe_non (nomark _)) (pw_or1 (pt_cmpR op_lt (pe_dget hu (pv 0) (pv 4) (fun _ _ => rfl)) (pe_dget hu (pv 0) (pv 2) (fun _ _ => rfl)) (nomark _))))))))
          (pss_one (ps_set (i := 2) scLowest.nd rfl (Or.inl rfl) (pv 4))) pss_nil))))
      (pss_one (ps_ret (pv 2)))), ?_⟩
    refine ⟨_, rfl, _, _, rfl, .inr (SqT.of hrow), _, _, rfl, rfl, _, rfl, (by rw [rowV_len]; omega), (by rw [rowV_len]; omega), for_range (lo := 0) (n := ((((rowV row).length : Nat) : Int) - 1).toNat)
      (fun i σ H' => ∃ (best : V) (v3 v4 : Option V), σ = [some (.ref d), some (.ref r), some best, v3, v4] ∧ Same H H' ∧ LowTo ps row i H' best) ⟨.non, none, none, rfl, Same.refl _, .inl ⟨rfl, fun j _ _ _ h => absurd h (by omega)⟩⟩ ?_ ?_⟩
    · rintro i σ H' hi ⟨best, v3, v4, rfl, sm, hb⟩
      rw [rowV_len] at hi
      have hi2 : i + 1 < row.length := by omega
      have ex : row[i]? = some row[i] := List.getElem?_eq_getElem (by omega)
      have ey : row[i + 1]? = some row[i + 1] := List.getElem?_eq_getElem hi2
      have hrow' := sm _ _ hrow
      refine ⟨_, rfl, _, rfl, r, _, _, _, rfl, rfl, SqT.of hrow', atN (j := i) (by omega) (rowV_get ex), _, rfl, _, rfl, _, _, rfl, rfl, r, _, _, _, rfl, rfl, SqT.of hrow', atN (j := i + 1) (by omega) (rowV_get ey), (by show 2 ≤ sizeLine; decide), fun t ht => ?_⟩
      have sm2 : Same H (upd H' t (.tup [iV row[i], iV row[i + 1]])) := Same_nn sm ht
      have hb2 := hb.same (Same_new (o := .tup [iV row[i], iV row[i + 1]]) ht)
      have ha : Adj row[i] row[i + 1] row := adj_ix.mpr ⟨i, ex, ey⟩
      have hd2 := sm2 _ _ hd
      have ht2 : (upd H' t (.tup [iV row[i], iV row[i + 1]])) t = some (.tup ((kOf (row[i], row[i + 1])).map kV)) := upd_same
      rcases rk_cases nd (row[i], row[i + 1]) with ⟨hn, hv⟩ | ⟨q, hq, hv⟩
      · refine ⟨_, rfl, _, rfl, d, none, rfl, (by rw [← hv]; exact DGet.t hd2 ht2), false, rfl, iteF (iteF ?_)⟩
        refine ⟨best, _, _, rfl, sm2, ?_⟩
        have no : ∀ q x y, row[i]? = some x → row[i + 1]? = some y → ps[q]? ≠ some (x, y) := fun q x y e1 e2 e => by
          rw [ex] at e1; rw [ey] at e2
          cases e1; cases e2
          exact hn (List.mem_of_getElem? e)
        rcases hb2 with ⟨rfl, h⟩ | ⟨a, q, x, y, rfl, h1, h2, h3, h4⟩
        · refine .inl ⟨rfl, fun j q x y hj e1 e2 e => ?_⟩
          by_cases c : j < i
          · exact h j q x y c e1 e2 e
          · have : j = i := by omega
            subst this
            exact no q x y e1 e2 e
        · refine .inr ⟨a, q, x, y, rfl, h1, h2, h3, fun j q' x' y' hj e1 e2 e => ?_⟩
          by_cases c : j < i
          · exact h4 j q' x' y' c e1 e2 e
          · have : j = i := by omega
            subst this
            exact absurd e (no q' x' y' e1 e2)
      · have here : ∀ q' x y, row[i]? = some x → row[i + 1]? = some y → ps[q']? = some (x, y) → q' = q := fun q' x y e1 e2 e => by
          rw [ex] at e1; rw [ey] at e2
          cases e1; cases e2
          exact nd q' q _ e hq
        refine ⟨_, rfl, _, rfl, d, some (iV q), rfl, (by rw [← hv]; exact DGet.t hd2 ht2), true, rfl, iteT ?_⟩
        rcases hb2 with ⟨rfl, h⟩ | ⟨a, q0, x, y, rfl, h1, h2, h3, h4⟩
        · refine ⟨_, rfl, rfl, true, rfl, iteT (iteT ?_)⟩
          refine ⟨_, rfl, _, _, _, rfl, sm2, .inr ⟨t, q, row[i], row[i + 1], rfl, upd_same, hq, ha, fun j q' x' y' hj e1 e2 e => ?_⟩⟩
          by_cases c : j < i
          · exact absurd e (h j q' x' y' c e1 e2)
          · have : j = i := by omega
            subst this
            rw [here q' x' y' e1 e2 e]; exact Nat.le_refl _
        · have ha2 : (upd H' t (.tup [iV row[i], iV row[i + 1]])) a = some (.tup ((kOf (x, y)).map kV)) := h1
          refine ⟨_, rfl, rfl, false, rfl, iteF ?_⟩
          refine ⟨_, rfl, _, rfl, d, iV q, rfl, (by rw [← hv]; exact DGet.t hd2 ht2), _, rfl, _, rfl, d, iV q0, rfl, (by rw [← rk_some nd h2]; exact DGet.t hd2 ha2), _, _, rfl, rfl, _, rfl, ?_⟩
          refine ite2 (fun c => ?_) (fun c => ?_)
          · have c := of_decide_eq_true c
            refine ⟨_, rfl, _, _, _, rfl, sm2, .inr ⟨t, q, row[i], row[i + 1], rfl, upd_same, hq, ha, fun j q' x' y' hj e1 e2 e => ?_⟩⟩
            by_cases cj : j < i
            · have := h4 j q' x' y' cj e1 e2 e
              omega
            · have : j = i := by omega
              subst this
              rw [here q' x' y' e1 e2 e]; exact Nat.le_refl _
          · have c := nd_of c
            refine ⟨_, _, _, rfl, sm2, .inr ⟨a, q0, x, y, rfl, h1, h2, h3, fun j q' x' y' hj e1 e2 e => ?_⟩⟩
            by_cases cj : j < i
            · exact h4 j q' x' y' cj e1 e2 e
            · have : j = i := by omega
              subst this
              rw [here q' x' y' e1 e2 e]; omega
    · rintro σ H' ⟨best, v3, v4, rfl, sm, hb⟩
      refine ⟨_, rfl, k _ _ sm (hb.all ?_)⟩
      rw [rowV_len]; omega
/-! ### cut_row -/
def spCutRow : L2.Sp := fun vs H Q _ => ∃ (d r : Addr) (b : Nat) (ps : List (Nat × Nat)) (row : List Nat), vs = [.ref d, iV b, .ref r] ∧ H d = some (.dT (rk ps)) ∧ ND ps ∧ Low b ps ∧ H r = some (.tup (rowV row)) ∧ row.length ≤ 1000 ∧
  ∀ (H' : Hp) (q : Addr), Same H H' → H' q = some (.tup (rowV (st b ps row))) → Q (.ref q) H'
theorem scCutRow : FnScope ["ranks", "letters", "row", "pair"] ["ranks", "letters", "row"] (defScope sCutRow) := ⟨rfl, rfl, rfl, by decide +kernel, rfl, by decide +kernel, by decide +kernel⟩
theorem ok_cutRow {f g p : Addr} {fd gd pd : FuncData} (F : Fun K "cut_row" "cut_row" sCutRow f fd) (CL : Cal K mg "lowest_pair" sLowest g gd ["ranks", "row"]) (GL : FnOk P w K mg base CX0 1 g gd ["ranks", "row"] spLowest)
    (CP : Cal K mg "put_together" sPut p pd ["row", "pair", "piece"]) (GP : FnOk P w K mg base CX0 1 p pd ["row", "pair", "piece"] spPut) : FnOk P w K mg base CX0 2 f fd ["ranks", "letters", "row"] spCutRow := by
  refine F.ok scCutRow (fun vs H Q E h => ?_) (fun cdv A outer s H vs Q E hr h => ?_)
  · obtain ⟨d, r, b, ps, row, rfl, _⟩ := h
    rfl
  · obtain ⟨d, r, b, ps, row, rfl, hd, nd, low, hrow, hlen, k⟩ := h
    have hu := hu_of hr
    refine ⟨_, pss_cons (ps_set (i := 3) scCutRow.nd rfl (Or.inl rfl) (pe_call GL hr (by rfl) CL.g CL.F.kp CL.b .nil pass0 (pa_cons (pv 0) (pa_cons (pv 2) pa_nil))))
      (pss_cons (ps_while PassesOwn.never (pt_cmpR op_notN (pv 3) pe_non (nomark _))
        (pss_cons (ps_set (i := 2) scCutRow.nd rfl (Or.inl rfl) (pe_call GP hr (by rfl) CP.g CP.F.kp CP.b .nil pass0 (pa_cons (pv 2) (pa_cons (pv 3) (pa_cons (pe_op op_add (pv 1) (pe_dget hu (pv 0) (pv 3) (fun _ _ => rfl))) pa_nil)))))
        (pss_one (ps_set (i := 3) scCutRow.nd rfl (Or.inl rfl) (pe_call GL hr (by rfl) CL.g CL.F.kp CL.b .nil pass0 (pa_cons (pv 0) (pa_cons (pv 2) pa_nil)))))))
      (pss_one (ps_ret (pv 2)))), ?_⟩
    refine ⟨_, rfl, _, rfl, d, r, ps, row, rfl, hd, nd, hrow, hlen, fun H1 v s1 l1 => ?_⟩
    refine ⟨fun M σ H' => ∃ (r' : Addr) (row' : List Nat) (v : V) (kk : Nat), M = row'.length ∧ σ = [some (.ref d), some (iV b), some (.ref r'), some v] ∧ Same H H' ∧ H' r' = some (.tup (rowV row')) ∧ row'.length ≤ row.length ∧ S b ps kk row = row' ∧ kk ≤ ps.length ∧ Clear ps kk row' ∧ LowAt ps row' H' v,
      ⟨_, r, row, v, 0, rfl, rfl, s1, s1 _ _ hrow, Nat.le_refl _, rfl, Nat.zero_le _, fun _ _ _ _ _ => Nat.zero_le _, l1⟩, ?_⟩
    rintro M σ H' ⟨r', row', v, kk, rfl, rfl, sm, hr', hle, hS, hkk, hcl, hlow⟩
    rcases hlow with ⟨rfl, hno⟩ | ⟨a, q, x, y, rfl, ha, hq, hadj, hclq⟩
    · refine ⟨_, rfl, rfl, false, rfl, iteF ?_⟩
      refine ⟨_, rfl, k _ _ sm ?_⟩
      rw [cut_end hS hkk hno]; exact hr'
    · refine ⟨_, rfl, rfl, true, rfl, iteT ?_⟩
      have hqk := hcl q x y hq hadj
      obtain ⟨t1, t2⟩ := cut_turn low hS hq hclq hqk
      have hql : q < ps.length := (List.getElem?_eq_some_iff.mp hq).1
      have less := pt_less (p := (x, y)) (m := b + q) row' hadj
      refine ⟨fun σ' H'' => ∃ (r2 : Addr) (row2 : List Nat) (v2 : V) (k2 : Nat), row2.length < row'.length ∧ σ' = [some (.ref d), some (iV b), some (.ref r2), some v2] ∧ Same H H'' ∧ H'' r2 = some (.tup (rowV row2)) ∧ row2.length ≤ row.length ∧ S b ps k2 row = row2 ∧ k2 ≤ ps.length ∧ Clear ps k2 row2 ∧ LowAt ps row2 H'' v2,
        fun σ' H'' ⟨r2, row2, v2, k2, h1, h2⟩ => ⟨_, h1, r2, row2, v2, k2, rfl, h2⟩, ?_⟩
      have hd' := sm _ _ hd
      have ha' : H' a = some (.tup ((kOf (x, y)).map kV)) := ha
      refine ⟨_, rfl, _, rfl, _, rfl, _, rfl, _, rfl, d, iV q, rfl, (by rw [← rk_some nd hq]; exact DGet.t hd' ha'), _, _, rfl, rfl, ?_⟩
      refine ⟨r', a, row', (x, y), b + q, (by unfold iV; simp), hr', ha, by omega, fun H2 t s2 ht => ?_⟩
      have sm2 := sm.trans s2
      refine ⟨_, rfl, _, rfl, d, t, ps, _, rfl, sm2 _ _ hd, nd, ht, by omega, fun H3 v3 s3 l3 => ?_⟩
      exact ⟨t, _, v3, q + 1, less, rfl, sm2.trans s3, s3 _ _ ht, by omega, t1, hql, t2, l3⟩
end
end RJ

set_option Elab.async false
set_option maxRecDepth 100000
set_option maxHeartbeats 4000000
namespace RJ
open PySem L2
/-! ### the object Joins -/
theorem lk_here {k : Str} {v : V} {r : List (Str × V)} : List.lookup k ((k, v) :: r) = some v := by
  have e : (k == k) = true := beq_self_eq_true k
  simp only [List.lookup, e]
theorem lk_past {k g : Str} {v : V} {r : List (Str × V)} (h : (k == g) = false) : List.lookup k ((g, v) :: r) = List.lookup k r := by
  simp only [List.lookup, h]
theorem put_here {f : Str} {v x : V} {r : List (Str × V)} : putF f v ((f, x) :: r) = (f, v) :: r := if_pos rfl
theorem put_past {f g : Str} {v x : V} {r : List (Str × V)} (h : ¬ g = f) : putF f v ((g, x) :: r) = (g, x) :: putF f v r := if_neg h
theorem put_nil {f : Str} {v : V} : putF f v [] = [(f, v)] := rfl
theorem put_snoc {f : Str} {v : V} : ∀ {l : List (Str × V)} {ks : List Str}, l.map (·.1) = ks → ks.contains f = false → putF f v l = l ++ [(f, v)]
  | [], _, _, _ => rfl
  | (g, x) :: r, ks, e, h => by
    subst e
    have h' : ((g :: r.map (·.1)) : List Str).contains f = false := h
    rw [List.contains_cons] at h'
    have h1 : (f == g) = false := (Bool.or_eq_false_iff.mp h').1
    have h2 : (r.map (·.1)).contains f = false := (Bool.or_eq_false_iff.mp h').2
    have n : ¬ g = f := fun q => by rw [q, beq_self_eq_true] at h1; cases h1
    rw [put_past n, put_snoc rfl h2]
    rfl
def jF (al : List Nat) (pa tl rd nd : Addr) (lg : Int) : List (Str × V) :=
  [("alphabet", .str (sAl al)), ("pairs", .ref pa), ("texts", .ref tl), ("ranks", .ref rd), ("numbers", .ref nd), ("longest", .int lg)]
section
variable (al : List Nat) (pa tl rd nd : Addr) (lg : Int)
theorem jF_alphabet : (jF al pa tl rd nd lg).lookup ("alphabet" : Str) = some (.str (sAl al)) := lk_here
theorem jF_pairs : (jF al pa tl rd nd lg).lookup ("pairs" : Str) = some (.ref pa) := (lk_past (by decide +kernel)).trans lk_here
theorem jF_texts : (jF al pa tl rd nd lg).lookup ("texts" : Str) = some (.ref tl) := (lk_past (by decide +kernel)).trans ((lk_past (by decide +kernel)).trans lk_here)
theorem jF_ranks : (jF al pa tl rd nd lg).lookup ("ranks" : Str) = some (.ref rd) := (lk_past (by decide +kernel)).trans ((lk_past (by decide +kernel)).trans ((lk_past (by decide +kernel)).trans lk_here))
theorem jF_numbers : (jF al pa tl rd nd lg).lookup ("numbers" : Str) = some (.ref nd) := (lk_past (by decide +kernel)).trans ((lk_past (by decide +kernel)).trans ((lk_past (by decide +kernel)).trans ((lk_past (by decide +kernel)).trans lk_here)))
theorem jF_longest : (jF al pa tl rd nd lg).lookup ("longest" : Str) = some (.int lg) := (lk_past (by decide +kernel)).trans ((lk_past (by decide +kernel)).trans ((lk_past (by decide +kernel)).trans ((lk_past (by decide +kernel)).trans ((lk_past (by decide +kernel)).trans lk_here))))
theorem jF_no {m : Str} (h1 : (m == ("alphabet" : Str)) = false) (h2 : (m == ("pairs" : Str)) = false) (h3 : (m == ("texts" : Str)) = false) (h4 : (m == ("ranks" : Str)) = false) (h5 : (m == ("numbers" : Str)) = false) (h6 : (m == ("longest" : Str)) = false) : (jF al pa tl rd nd lg).lookup m = none :=
  (lk_past h1).trans ((lk_past h2).trans ((lk_past h3).trans ((lk_past h4).trans ((lk_past h5).trans ((lk_past h6).trans rfl)))))
theorem jF_set_pairs (pa' : Addr) : putF "pairs" (.ref pa') (jF al pa tl rd nd lg) = jF al pa' tl rd nd lg := (put_past (by decide +kernel)).trans (congrArg _ put_here)
theorem jF_set_longest (lg' : Int) : putF "longest" (.int lg') (jF al pa tl rd nd lg) = jF al pa tl rd nd lg' :=
  (put_past (by decide +kernel)).trans (congrArg _ ((put_past (by decide +kernel)).trans (congrArg _ ((put_past (by decide +kernel)).trans (congrArg _ ((put_past (by decide +kernel)).trans (congrArg _ ((put_past (by decide +kernel)).trans (congrArg _ put_here)))))))))
theorem jF_new : putF "longest" (.int lg) (putF "numbers" (.ref nd) (putF "ranks" (.ref rd) (putF "texts" (.ref tl) (putF "pairs" (.ref pa) (putF "alphabet" (.str (sAl al)) []))))) = jF al pa tl rd nd lg := by
  rw [put_snoc (f := "alphabet") (ks := []) rfl (by decide +kernel), put_snoc (f := "pairs") (ks := ["alphabet"]) rfl (by decide +kernel), put_snoc (f := "texts") (ks := ["alphabet", "pairs"]) rfl (by decide +kernel), put_snoc (f := "ranks") (ks := ["alphabet", "pairs", "texts"]) rfl (by decide +kernel),
    put_snoc (f := "numbers") (ks := ["alphabet", "pairs", "texts", "ranks"]) rfl (by decide +kernel), put_snoc (f := "longest") (ks := ["alphabet", "pairs", "texts", "ranks", "numbers"]) rfl (by decide +kernel)]
  all_goals rfl
end
/-- the numbers of the letters -/
def NumOk (al : List Nat) (kvs : List (Key × V)) : Prop := ∀ (i c : Nat), al[i]? = some c → valV kvs (Sum.inr ⟨#[c]⟩) = some (iV i)
/-- a Joins stands at J, by its parts' places -/
structure JA (C : Addr) (H : Hp) (J : Addr) (al : List Nat) (ps : List (Nat × Nat)) (T : List (List Nat)) (dx pa tl rd nd : Addr) (as : List Addr) (kvs : List (Key × V)) (lg : Int) : Prop where
  ob : H J = some (.ins C dx (jF al pa tl rd nd lg))
  pa : H pa = some (.tup (refs as))
  prs : Prs H as ps
  tl : H tl = some (.lst (txV al T))
  rd : H rd = some (.dT (rk ps))
  nd : H nd = some (.dK kvs)
  num : NumOk al kvs
  few : kvs.length ≤ T.length
theorem JA.same {C : Addr} {H H' : Hp} {J : Addr} {al : List Nat} {ps : List (Nat × Nat)} {T : List (List Nat)} {dx pa tl rd nd : Addr} {as : List Addr} {kvs : List (Key × V)} {lg : Int} (h : JA C H J al ps T dx pa tl rd nd as kvs lg) (s : Same H H') : JA C H' J al ps T dx pa tl rd nd as kvs lg :=
  ⟨s _ _ h.ob, s _ _ h.pa, h.prs.same s, s _ _ h.tl, s _ _ h.rd, s _ _ h.nd, h.num, h.few⟩
def JAt (C : Addr) (H : Hp) (J : Addr) (al : List Nat) (ps : List (Nat × Nat)) (T : List (List Nat)) : Prop := ∃ dx pa tl rd nd as kvs lg, JA C H J al ps T dx pa tl rd nd as kvs lg
theorem JAt.same {C : Addr} {H H' : Hp} {J : Addr} {al : List Nat} {ps : List (Nat × Nat)} {T : List (List Nat)} (h : JAt C H J al ps T) (s : Same H H') : JAt C H' J al ps T :=
  let ⟨dx, pa, tl, rd, nd, as, kvs, lg, q⟩ := h
  ⟨dx, pa, tl, rd, nd, as, kvs, lg, q.same s⟩
/-- what the top has written of the class -/
structure Txt (K : PySem.W.Frag) (mg : Str → Option Value) (C : Addr) : Prop where
  cl : Cls K C
  nA : NoAttr K C "alphabet"
  nP : NoAttr K C "pairs"
  nT : NoAttr K C "texts"
  nR : NoAttr K C "ranks"
  nN : NoAttr K C "numbers"
  nL : NoAttr K C "longest"
  gC : mg "Joins" = some (.ref C)
/-- a method of the class -/
structure Met (K : PySem.W.Frag) (C : Addr) (m q : Str) (st : Stmt) (f : Addr) (fd : FuncData) (ps : List Str) : Prop where
  F : Fun K m q st f fd
  m : Meth K C m f
  b : Binds K fd ps []
theorem PL.size {b : Nat} {ps : List (Nat × Nat)} {T : List (List Nat)} (h : PL b ps T) {p : Nat} (hp : p < T.length) : p < b + ps.length := by rw [← h.len]; exact hp

section
variable {P : Program} {w : World} {K : PySem.W.Frag} {mg : Str → Option Value} {base : Heap} {C : Addr}
/-! ### is_piece -/
def spIsPiece (C : Addr) : L2.Sp := fun vs H Q _ => ∃ (J : Addr) (al : List Nat) (ps : List (Nat × Nat)) (T : List (List Nat)) (p : Nat), vs = [.ref J, iV p] ∧ JAt C H J al ps T ∧ p < T.length ∧ T.length ≤ 1000 ∧ Q (.bl true) H
theorem scIsPiece : FnScope ["self", "piece"] ["self", "piece"] (defScope sIsPiece) := ⟨rfl, rfl, rfl, by decide +kernel, rfl, by decide +kernel, by decide +kernel⟩
theorem ok_isPiece {f g : Addr} {fd gd : FuncData} (F : Fun K "is_piece" "Joins.is_piece" sIsPiece f fd) (T : Txt K mg C) (B : Bn mg) (CB : Cal K mg "is_between" sBetween g gd ["value", "least", "most"]) (GB : FnOk P w K mg base CX0 1 g gd ["value", "least", "most"] spBetween) :
    FnOk P w K mg base CX0 2 f fd ["self", "piece"] (spIsPiece C) := by
  refine F.ok scIsPiece (fun vs H Q E h => ?_) (fun cdv A outer s H vs Q E hr h => ?_)
  · obtain ⟨J, al, ps, TT, p, rfl, _⟩ := h
    rfl
  · obtain ⟨J, al, ps, TT, p, rfl, ⟨dx, pa, tl, rd, nd, as, kvs, lg, j⟩, hp, hT, k⟩ := h
    refine ⟨_, pss_one (ps_ret (pe_call GB hr (by rfl) CB.g CB.F.kp CB.b .nil pass0 (pa_cons (pv 1) (pa_cons pe_int (pa_cons (pe_op op_sub (pe_callB call_len_seq (by rfl) B.len b_len (pa_cons (pe_fld (pv 0) rfl) pa_nil)) pe_int) pa_nil))))), ?_⟩
    refine ⟨_, rfl, _, rfl, J, C, dx, _, _, rfl, j.ob, T.cl, T.nT, jF_texts .., tl, _, rfl, .inl (SqL.of j.tl), _, _, rfl, rfl, ?_⟩
    refine ⟨_, _, _, rfl, by omega, ?_, k⟩
    rw [txV_len]; omega
/-! ### check_piece -/
def spCheck (C : Addr) : L2.Sp := fun vs H Q _ => ∃ (J : Addr) (al : List Nat) (ps : List (Nat × Nat)) (T : List (List Nat)) (p : Nat), vs = [.ref J, iV p] ∧ JAt C H J al ps T ∧ p < T.length ∧ T.length ≤ 1000 ∧ Q .non H
theorem scCheck : FnScope ["self", "piece"] ["self", "piece"] (defScope sCheck) := ⟨rfl, rfl, rfl, by decide +kernel, rfl, by decide +kernel, by decide +kernel⟩
theorem ok_check {f g : Addr} {fd gd : FuncData} (F : Fun K "check_piece" "Joins.check_piece" sCheck f fd) (T : Txt K mg C) (M : Met K C "is_piece" "Joins.is_piece" sIsPiece g gd ["self", "piece"]) (G : FnOk P w K mg base CX0 2 g gd ["self", "piece"] (spIsPiece C)) :
    FnOk P w K mg base CX0 3 f fd ["self", "piece"] (spCheck C) := by
  refine F.ok scCheck (fun vs H Q E h => ?_) (fun cdv A outer s H vs Q E hr h => ?_)
  · obtain ⟨J, al, ps, TT, p, rfl, _⟩ := h
    rfl
  · obtain ⟨J, al, ps, TT, p, rfl, hJ, hp, hT, k⟩ := h
    obtain ⟨dx, pa, tl, rd, nd, as, kvs, lg, j⟩ := id hJ
    refine ⟨_, pss_one (ps_if (pt_not (pt_val (pe_meth (pv 0) T.cl M.m G hr M.b .nil pass0 (pa_cons (pv 1) pa_nil)))) (pss_one ps_never) pss_nil), ?_⟩
    refine ⟨_, rfl, J, dx, _, rfl, j.ob, jF_no _ _ _ _ _ _ (by decide +kernel) (by decide +kernel) (by decide +kernel) (by decide +kernel) (by decide +kernel) (by decide +kernel), _, rfl, ?_⟩
    exact ⟨J, al, ps, TT, p, rfl, hJ, hp, hT, true, rfl, iteF k⟩
/-! ### parts_of -/
def PartV (b : Nat) (ps : List (Nat × Nat)) (H : Hp) (p : Nat) (v : V) : Prop := (v = .non ∧ parts b ps p = none) ∨ ∃ (a : Addr) (pr : Nat × Nat), v = .ref a ∧ H a = some (.tup (pV pr)) ∧ parts b ps p = some pr
theorem PartV.same {b : Nat} {ps : List (Nat × Nat)} {H H' : Hp} {p : Nat} {v : V} (h : PartV b ps H p v) (s : Same H H') : PartV b ps H' p v := by
  rcases h with h | ⟨a, pr, h1, h2, h3⟩
  · exact .inl h
  · exact .inr ⟨a, pr, h1, s _ _ h2, h3⟩
def spParts (C : Addr) : L2.Sp := fun vs H Q _ => ∃ (J : Addr) (al : List Nat) (ps : List (Nat × Nat)) (T : List (List Nat)) (p : Nat), vs = [.ref J, iV p] ∧ JAt C H J al ps T ∧ T.length = al.length + ps.length ∧ p < T.length ∧ T.length ≤ 1000 ∧
  ∀ v : V, PartV al.length ps H p v → Q v H
theorem scParts : FnScope ["self", "piece"] ["self", "piece"] (defScope sParts) := ⟨rfl, rfl, rfl, by decide +kernel, rfl, by decide +kernel, by decide +kernel⟩
theorem ok_parts {f g : Addr} {fd gd : FuncData} (F : Fun K "parts_of" "Joins.parts_of" sParts f fd) (T : Txt K mg C) (B : Bn mg) (M : Met K C "check_piece" "Joins.check_piece" sCheck g gd ["self", "piece"]) (G : FnOk P w K mg base CX0 3 g gd ["self", "piece"] (spCheck C)) :
    FnOk P w K mg base CX0 4 f fd ["self", "piece"] (spParts C) := by
  refine F.ok scParts (fun vs H Q E h => ?_) (fun cdv A outer s H vs Q E hr h => ?_)
  · obtain ⟨J, al, ps, TT, p, rfl, _⟩ := h
    rfl
  · obtain ⟨J, al, ps, TT, p, rfl, hJ, hTl, hp, hT, k⟩ := h
    obtain ⟨dx, pa, tl, rd, nd, as, kvs, lg, j⟩ := id hJ
    have hal : (sAl al).length = al.length := rfl
    have hall : (sAl al).length ≤ sizeLine := by rw [hal]; exact small_line (by omega)
    refine ⟨_, pss_cons (ps_expr (pe_meth (pv 0) T.cl M.m G hr M.b .nil pass0 (pa_cons (pv 1) pa_nil)))
      (pss_cons (ps_if (pt_cmpR op_lt (pv 1) (pe_callB call_len_str (by rfl) B.len b_len (pa_cons (pe_fld (pv 0) rfl) pa_nil)) (nomark _)) (pss_one (ps_ret pe_non)) pss_nil)
      (pss_one (ps_ret (pe_ix ix_tup (pe_fld (pv 0) rfl) (pe_op op_sub (pv 1) (pe_callB call_len_str (by rfl) B.len b_len (pa_cons (pe_fld (pv 0) rfl) pa_nil))) (fun _ _ => rfl))))), ?_⟩
    refine ⟨_, rfl, J, dx, _, rfl, j.ob, jF_no _ _ _ _ _ _ (by decide +kernel) (by decide +kernel) (by decide +kernel) (by decide +kernel) (by decide +kernel) (by decide +kernel), _, rfl, J, al, ps, TT, p, rfl, hJ, hp, hT, ?_⟩
    refine ⟨_, rfl, _, rfl, J, C, dx, _, _, rfl, j.ob, T.cl, T.nA, jF_alphabet .., _, rfl, hall, _, _, rfl, rfl, _, rfl, ?_⟩
    refine ite2 (fun c => ?_) (fun c => ?_)
    · have c := of_decide_eq_true c
      rw [hal] at c
      exact k _ (.inl ⟨rfl, parts_let (by omega)⟩)
    · have c := nd_of c
      rw [hal] at c
      have e : p = al.length + (p - al.length) := by omega
      have hq : ps[p - al.length]? = some ps[p - al.length] := List.getElem?_eq_getElem (by omega)
      obtain ⟨a, ha1, ha2⟩ := j.prs.get hq
      refine ⟨_, rfl, J, C, dx, _, _, rfl, j.ob, T.cl, T.nP, jF_pairs .., _, rfl, _, rfl, J, C, dx, _, _, rfl, j.ob, T.cl, T.nA, jF_alphabet .., _, rfl, hall, _, _, rfl, rfl, pa, _, _, _, rfl, rfl, SqT.of j.pa, atN (j := p - al.length) (by rw [hal]; omega) (refs_get ha1), ?_⟩
      exact k _ (.inr ⟨a, _, rfl, ha2, by rw [parts_join e]; exact hq⟩)
/-! ### piece_of (a letter) -/
def spPieceOf (C : Addr) : L2.Sp := fun vs H Q _ => ∃ (J : Addr) (al : List Nat) (ps : List (Nat × Nat)) (T : List (List Nat)) (i c : Nat), vs = [.ref J, .str ⟨#[c]⟩] ∧ JAt C H J al ps T ∧ al[i]? = some c ∧ Q (iV i) H
theorem scPieceOf : FnScope ["self", "text"] ["self", "text"] (defScope sPieceOf) := ⟨rfl, rfl, rfl, by decide +kernel, rfl, by decide +kernel, by decide +kernel⟩
theorem ok_pieceOf {f : Addr} {fd : FuncData} (F : Fun K "piece_of" "Joins.piece_of" sPieceOf f fd) (T : Txt K mg C) : FnOk P w K mg base CX0 1 f fd ["self", "text"] (spPieceOf C) := by
  refine F.ok scPieceOf (fun vs H Q E h => ?_) (fun cdv A outer s H vs Q E hr h => ?_)
  · obtain ⟨J, al, ps, TT, i, c, rfl, _⟩ := h
    rfl
  · obtain ⟨J, al, ps, TT, i, c, rfl, ⟨dx, pa, tl, rd, nd, as, kvs, lg, j⟩, hc, k⟩ := h
    have hu := hu_of hr
    refine ⟨_, pss_one (ps_ret (pe_dget1 hu (pe_fld (pv 0) rfl) (pv 1) ⟨rfl, rfl, rfl, rfl⟩)), ?_⟩
    refine ⟨_, rfl, J, C, dx, _, _, rfl, j.ob, T.cl, T.nN, jF_numbers .., nd, rfl, .inl ⟨kvs, .inl j.nd⟩, _, rfl, some (iV i), ?_, k⟩
    rw [← j.num i c hc]
    exact DGet.k (k := Sum.inr ⟨#[c]⟩) j.nd
end
end RJ

set_option Elab.async false
set_option maxRecDepth 100000
set_option maxHeartbeats 4000000
namespace RJ
open PySem L2
theorem tx_take {T : List (List Nat)} {n p : Nat} (h : p < n) : tx (T.take n) p = tx T p := by
  unfold tx
  rw [List.getD_eq_getElem?_getD, List.getD_eq_getElem?_getD, List.getElem?_take_of_lt h]
theorem PL.take {b : Nat} {ps : List (Nat × Nat)} {T : List (List Nat)} (h : PL b ps T) {i : Nat} (hi : i ≤ ps.length) : PL b (ps.take i) (T.take (b + i)) := by
  have hl := h.len
  refine ⟨h.pos, by rw [List.length_take, List.length_take]; omega, fun j hj => ?_, fun r l m e => ?_⟩
  · rw [List.getElem?_take_of_lt (by omega)]; exact h.lett j hj
  · have hr : r < (ps.take i).length := (List.getElem?_eq_some_iff.mp e).1
    rw [List.length_take] at hr
    have hri : r < i := by omega
    rw [List.getElem?_take_of_lt hri] at e
    have j := h.join r l m e
    have lt := h.low r l m e
    rw [tx_take (by omega), tx_take (by omega), List.getElem?_take_of_lt (by omega)]
    have es : S b (ps.take i) r (tx T l ++ tx T m) = S b ps r (tx T l ++ tx T m) := by
      unfold S; rw [List.take_take, Nat.min_eq_left (by omega)]
    rw [es]
    exact j
theorem txV_snoc (al : List Nat) (T : List (List Nat)) (t : List Nat) : txV al T ++ [V.str (sOf al t)] = txV al (T ++ [t]) := by
  unfold txV; rw [List.map_append]; rfl
theorem refs_snoc (as : List Addr) (a : Addr) : refs as ++ [V.ref a] = refs (as ++ [a]) := by
  unfold refs; rw [List.map_append]; rfl
/-- the pair may be the next join -/
structure Next (al : List Nat) (ps : List (Nat × Nat)) (T : List (List Nat)) (l m : Nat) : Prop where
  pl : PL al.length ps T
  l_lt : l < T.length
  m_lt : m < T.length
  cut : st al.length ps (tx T l ++ tx T m) = [l, m]
  short : (tx T l ++ tx T m).length ≤ 40
  few : T.length ≤ 900
  alph : Alph al
theorem Next.push {al : List Nat} {ps : List (Nat × Nat)} {T : List (List Nat)} {l m : Nat} (h : Next al ps T l m) : PL al.length (ps ++ [(l, m)]) (T ++ [tx T l ++ tx T m]) := h.pl.push h.l_lt h.m_lt h.cut h.short
theorem Next.new {al : List Nat} {ps : List (Nat × Nat)} {T : List (List Nat)} {l m : Nat} (h : Next al ps T l m) : (l, m) ∉ ps := fun z => by
  obtain ⟨r, e⟩ := List.mem_iff_getElem?.mp z
  have hr : r < ps.length := (List.getElem?_eq_some_iff.mp e).1
  have := h.push.nodup (q := r) (r := ps.length) (p := (l, m)) (by rw [List.getElem?_append_left hr]; exact e) (by rw [List.getElem?_append_right (Nat.le_refl _)]; simp)
  omega
theorem Next.let_ {al : List Nat} {ps : List (Nat × Nat)} {T : List (List Nat)} {l m : Nat} (h : Next al ps T l m) : ∀ x ∈ tx T l ++ tx T m, x < al.length := fun x hx => by
  rcases List.mem_append.mp hx with z | z
  · exact h.pl.tx_lt l (h.pl.size h.l_lt) x z
  · exact h.pl.tx_lt m (h.pl.size h.m_lt) x z
theorem pe_fldK {X : Cx} {K : PySem.W.Frag} {e : Expr} {f : Str} {pos : Pos} {ta : TE} (hK : X.K = K) (he : PE X e ta) (hb : attributeBase e f X.env (eval e X.env) = eval e X.env) : PE X (.Attribute e f pos) (tFld K ta f) := by
  subst hK; exact pe_fld he hb
section
variable {P : Program} {w : World} {K : PySem.W.Frag} {mg : Str → Option Value} {base : Heap} {C : Addr}
/-! ### is_proper -/
def spProper (C : Addr) : L2.Sp := fun vs H Q _ => ∃ (J a : Addr) (al : List Nat) (ps : List (Nat × Nat)) (T : List (List Nat)) (l m : Nat), vs = [.ref J, .ref a] ∧ JAt C H J al ps T ∧ H a = some (.tup (pV (l, m))) ∧ Next al ps T l m ∧ ∀ H', Same H H' → Q (.bl true) H'
theorem scProper : FnScope ["self", "pair", "left", "right", "most", "text", "row", "letter"] ["self", "pair"] (defScope sProper) := ⟨rfl, rfl, rfl, by decide +kernel, rfl, by decide +kernel, by decide +kernel⟩
theorem ok_proper {f g c : Addr} {fd gd cd : FuncData} (F : Fun K "is_proper" "Joins.is_proper" sProper f fd) (T : Txt K mg C) (B : Bn mg) {tk : Tok} (hL : mg "LONGEST_PIECE" = some (.int 40 tk))
    (CB : Cal K mg "is_between" sBetween g gd ["value", "least", "most"]) (GB : FnOk P w K mg base CX0 1 g gd ["value", "least", "most"] spBetween)
    (CC : Cal K mg "cut_row" sCutRow c cd ["ranks", "letters", "row"]) (GC : FnOk P w K mg base CX0 2 c cd ["ranks", "letters", "row"] spCutRow) : FnOk P w K mg base CX0 3 f fd ["self", "pair"] (spProper C) := by
  refine F.ok scProper (fun vs H Q E h => ?_) (fun cdv A outer s H vs Q E hr h => ?_)
  · obtain ⟨J, a, al, ps, TT, l, m, rfl, _⟩ := h
    rfl
  · obtain ⟨J, a, al, ps, TT, l, m, rfl, ⟨dx, pa, tl, rd, nd, as, kvs, lg, j⟩, ha, N, k⟩ := h
    have hu := hu_of hr
    have hr1 : Room 1 _ := hr.mono (by decide)
    refine ⟨_, pss_cons (ps_asg (pv 1) (pg_tup rfl (pgs_cons (pg_name (i := 2) scProper.nd rfl (Or.inl rfl)) (pgs_cons (pg_name (i := 3) scProper.nd rfl (Or.inl rfl)) pgs_nil))))
      (pss_cons (ps_set (i := 4) scProper.nd rfl (Or.inl rfl) (pe_op op_sub (pe_callB call_len_seq (by rfl) B.len b_len (pa_cons (pe_fld (pv 0) rfl) pa_nil)) pe_int))
      (pss_cons (ps_if (PW.pt (pw_or (pt_not (pt_val (pe_call GB hr1 (by rfl) CB.g CB.F.kp CB.b .nil pass0 (pa_cons (pv 2) (pa_cons pe_int (pa_cons (pv 4) pa_nil))))))
          (pw_or1 (pt_not (pt_val (pe_call GB hr1 (by rfl) CB.g CB.F.kp CB.b .nil pass0 (pa_cons (pv 3) (pa_cons pe_int (pa_cons (pv 4) pa_nil))))))))) (pss_one (ps_ret pe_bl)) pss_nil)
      (pss_cons (ps_set (i := 5) scProper.nd rfl (Or.inl rfl) (pe_op op_add_str (pe_ix ix_list (pe_fld (pv 0) rfl) (pv 2) (fun _ _ => rfl)) (pe_ix ix_list (pe_fld (pv 0) rfl) (pv 3) (fun _ _ => rfl))))
      (pss_cons (ps_if (pt_cmpR op_gt (pe_callB call_len_str (by rfl) B.len b_len (pa_cons (pv 5) pa_nil)) (pe_glob (v := .int 40) (by rfl) hL ⟨_, rfl⟩) (nomark _)) (pss_one (ps_ret pe_bl)) pss_nil)
      (pss_cons (ps_set (i := 6) scProper.nd rfl (Or.inl rfl) (pe_callTy call_tuple_of (by rfl) B.tuple b_tuple (pa_cons
          (pe_lc (own := [("letter", 7)]) (g := gName 7) (tt := tYes) rfl scProper.nd (pi_str (pv 5)) (blkOk_by (N := ["self", "pair", "left", "right", "most", "text", "row", "letter"]) (sc := defScope sProper) (by decide +kernel))
            (fun _ _ _ _ _ => pg_name (i := 7) scProper.nd rfl (Or.inl rfl)) (fun _ _ _ _ _ => pts_nil) (fun _ _ _ _ _ => pe_dget hu (pe_fldK (K := K) rfl (pv 0) rfl) (pv 7) (fun _ _ => rfl))) pa_nil)))
      (pss_one (ps_ret (pe_cmpR (op_eqD hr.units) (pe_call GC hr (by rfl) CC.g CC.F.kp CC.b .nil pass0 (pa_cons (pe_fld (pv 0) rfl) (pa_cons (pe_callB call_len_str (by rfl) B.len b_len (pa_cons (pe_fld (pv 0) rfl) pa_nil)) (pa_cons (pv 6) pa_nil)))) (pv 1) (nomark _))))))))), ?_⟩
    have hal : (sAl al).length = al.length := rfl
    have hale := N.alph.le
    have hlen := N.pl.len
    have hall : (sAl al).length ≤ sizeLine := by rw [hal]; exact small_line (by omega)
    have hTl := N.few
    have hl := N.l_lt
    have hm := N.m_lt
    have hsl := N.pl.tx_short (N.pl.size hl)
    have hsm := N.pl.tx_short (N.pl.size hm)
    -- left, right = pair; most
    refine ⟨_, rfl, a, _, rfl, SqT.of ha, rfl, _, _, rfl, _, _, rfl, rfl, ?_⟩
    refine ⟨_, rfl, J, C, dx, _, _, rfl, j.ob, T.cl, T.nT, jF_texts .., tl, _, rfl, .inl (SqL.of j.tl), _, _, rfl, rfl, ?_⟩
    -- both are pieces
    refine ⟨_, rfl, _, rfl, _, _, _, rfl, by omega, by rw [txV_len]; omega, true, rfl, iteF ?_⟩
    refine ⟨_, rfl, _, rfl, _, _, _, rfl, by omega, by rw [txV_len]; omega, true, rfl, iteF ?_⟩
    -- text
    refine ⟨_, rfl, J, C, dx, _, _, rfl, j.ob, T.cl, T.nT, jF_texts .., _, rfl, tl, _, _, _, rfl, rfl, SqL.of j.tl, atN (j := l) rfl (txV_get hl), ?_⟩
    refine ⟨_, rfl, J, C, dx, _, _, rfl, j.ob, T.cl, T.nT, jF_texts .., _, rfl, tl, _, _, _, rfl, rfl, SqL.of j.tl, atN (j := m) rfl (txV_get hm), ?_⟩
    refine ⟨_, _, rfl, rfl, (by rw [sOf_len, sOf_len]; exact small_line (by omega)), ?_⟩
    rw [sOf_app]
    generalize hxs : tx TT l ++ tx TT m = xs
    have h40 : xs.length ≤ 40 := by rw [← hxs]; exact N.short
    have hlt : ∀ x ∈ xs, x < al.length := by rw [← hxs]; exact N.let_
    refine ⟨_, rfl, _, rfl, (by rw [sOf_len]; exact small_line (by omega)), _, _, rfl, rfl, false, blF (by rw [sOf_len]; omega), iteF ?_⟩
    -- row
    refine ⟨_, rfl, _, rfl, fun D hD => lc_it walk_str (fun i H' => Same H H' ∧ H' D = some (.lst (rowV (xs.take i)))) ⟨Same_new hD, upd_same⟩ (fun _ _ _ _ => True.intro) ?_ ?_⟩
    · rintro i x H1 H2 hi ⟨sm, hL⟩ ⟨rfl, c, hc, rfl⟩
      rw [sOf_size] at hi
      have ex : xs[i]? = some xs[i] := List.getElem?_eq_getElem hi
      have hxi := hlt xs[i] (List.getElem_mem hi)
      rw [sOf_get ex] at hc
      have hc : al.getD xs[i] 0 = c := Option.some.inj hc
      have hca : al[xs[i]]? = some c := by
        rw [← hc, List.getD_eq_getElem?_getD]
        simp [hxi]
      have j2 := j.same sm
      refine ⟨rfl, ?_⟩
      refine ⟨_, rfl, J, C, dx, _, _, rfl, j2.ob, T.cl, T.nN, jF_numbers .., _, rfl, nd, iV xs[i], rfl, (by rw [← j2.num _ c hca]; exact DGet.k (k := Sum.inr ⟨#[c]⟩) j2.nd), ?_⟩
      refine ⟨_, hL, (by rw [rowV_len]; exact small_lt (by rw [List.length_take]; omega)), Same_put sm hD, ?_⟩
      rw [upd_same, rowV_snoc, take_succ ex]
    · rintro H1 ⟨sm, hL⟩
      rw [sOf_size, List.take_length] at hL
      refine ⟨D, _, rfl, .inl ⟨SqL.of hL, fun t ht => ?_⟩⟩
      have sm2 := Same_nn (o := .tup (rowV xs)) sm ht
      have j2 := j.same sm2
      -- cut_row(..) == pair
      refine ⟨_, rfl, J, C, dx, _, _, rfl, j2.ob, T.cl, T.nR, jF_ranks .., _, rfl, J, C, dx, _, _, rfl, j2.ob, T.cl, T.nA, jF_alphabet .., _, rfl, hall, _, rfl, ?_⟩
      refine ⟨rd, t, al.length, ps, xs, rfl, j2.rd, fun q r p e1 e2 => N.pl.nodup e1 e2, N.pl.low, upd_same, by omega, fun H2 q s2 hq => ?_⟩
      refine ⟨_, rfl, eq_tt (l := [l, m]) (m := [l, m]) (by rw [← N.cut, hxs]; exact hq) (s2 _ _ (sm2 _ _ ha)) ?_⟩
      rw [decide_eq_true rfl]
      exact k _ (sm2.trans s2)
end
end RJ

set_option Elab.async false
set_option maxRecDepth 100000
set_option maxHeartbeats 4000000
namespace RJ
open PySem L2
/-- the tuples stand -/
def Tk (H H' : Hp) : Prop := ∀ b xs, H b = some (.tup xs) → H' b = some (.tup xs)
theorem Tk.trans {H H1 H2 : Hp} (a : Tk H H1) (b : Tk H1 H2) : Tk H H2 := fun c xs e => b c xs (a c xs e)
theorem Tk.of {H H' : Hp} (s : Same H H') : Tk H H' := fun b xs e => s b _ e
theorem Tk.upd {H : Hp} {x : Addr} {o o' : HO} (h : H x = some o) (n : ∀ xs, o ≠ .tup xs) : Tk H (L2.upd H x o') := fun b xs e => by
  rw [upd_ne (fun z => by subst z; rw [h] at e; exact n xs (Option.some.inj e))]; exact e
theorem Prs.tk {H H' : Hp} {as : List Addr} {ps : List (Nat × Nat)} (h : Prs H as ps) (s : Tk H H') : Prs H' as ps := ⟨h.len, fun i a p e1 e2 => s _ _ (h.at_ i a p e1 e2)⟩
/-- t + (y,) -/
theorem catA_one {K : PySem.W.Frag} {H : Hp} {a b : Addr} {xs : List V} {y : V} {Q : VK} (ha : H a = some (.tup xs)) (hb : H b = some (.tup [y])) (hz : xs.length ≤ 1000) (h : ∀ (p : Addr) (H' : Hp), Same H H' → H' p = some (.tup (xs ++ [y])) → Q (.ref p) H') :
    rCatA K (.ref a) (.ref b) H Q := by
  refine ⟨a, b, xs, [y], rfl, rfl, SqT.of ha, SqT.of hb, (by show xs.length + 1 ≤ sizeLine; exact small_line (by omega)), fun e => ?_, fun _ e => (nomatch e), fun _ _ p hp => h p _ (Same_new hp) upd_same⟩
  subst e
  exact h b H (Same.refl H) hb
theorem asc_lt {al : List Nat} (h : ∀ i, i + 1 < al.length → al.getD i 0 < al.getD (i + 1) 0) {i : Nat} : ∀ {j : Nat}, i < j → j < al.length → al.getD i 0 < al.getD j 0 := by
  intro j
  induction j with
  | zero => intro h1; omega
  | succ j ih =>
    intro h1 h2
    have := h j h2
    by_cases c : i = j
    · subst c; exact this
    · exact Nat.lt_trans (ih (by omega) (by omega)) this
theorem getD_of {al : List Nat} {i c : Nat} (h : al[i]? = some c) : al.getD i 0 = c := by rw [List.getD_eq_getElem?_getD, h]; rfl
theorem Alph.inj {al : List Nat} (h : Alph al) {i j c : Nat} (hi : al[i]? = some c) (hj : al[j]? = some c) : i = j := by
  have li : i < al.length := (List.getElem?_eq_some_iff.mp hi).1
  have lj : j < al.length := (List.getElem?_eq_some_iff.mp hj).1
  by_cases c1 : i < j
  · have := asc_lt h.asc c1 lj
    rw [getD_of hi, getD_of hj] at this; omega
  · by_cases c2 : j < i
    · have := asc_lt h.asc c2 li
      rw [getD_of hi, getD_of hj] at this; omega
    · omega
theorem str_one_inj {a b : Nat} (h : (Sum.inr (⟨#[a]⟩ : Str) : Key) = Sum.inr ⟨#[b]⟩) : a = b := by
  injection h with h
  have : (⟨#[a]⟩ : Str).cps.toList = (⟨#[b]⟩ : Str).cps.toList := by rw [h]
  simpa using this
section
variable {P : Program} {w : World} {K : PySem.W.Frag} {mg : Str → Option Value} {base : Heap} {C : Addr}
/-! ### take -/
def spTake (C : Addr) : L2.Sp := fun vs H Q _ => ∃ (H0 : Hp) (J a : Addr) (al : List Nat) (ps : List (Nat × Nat)) (T : List (List Nat)) (l m : Nat) (dx pa tl rd nd : Addr) (as : List Addr) (kvs : List (Key × V)) (lg : Int),
  vs = [.ref J, .ref a] ∧ Same H0 H ∧ H0 J = none ∧ H0 tl = none ∧ H0 rd = none ∧ H0 nd = none ∧ JA C H J al ps T dx pa tl rd nd as kvs lg ∧ H a = some (.tup (pV (l, m))) ∧ Next al ps T l m ∧
  ∀ (H' : Hp) (pa' : Addr) (kvs' : List (Key × V)) (lg' : Int), Same H0 H' → JA C H' J al (ps ++ [(l, m)]) (T ++ [tx T l ++ tx T m]) dx pa' tl rd nd (as ++ [a]) kvs' lg' → Q .non H'
theorem scTake : FnScope ["self", "pair", "rank", "text"] ["self", "pair"] (defScope sTake) := ⟨rfl, rfl, rfl, by decide +kernel, rfl, by decide +kernel, by decide +kernel⟩
theorem ok_take {f g : Addr} {fd gd : FuncData} (F : Fun K "take" "Joins.take" sTake f fd) (T : Txt K mg C) (B : Bn mg) (M : Met K C "is_proper" "Joins.is_proper" sProper g gd ["self", "pair"]) (G : FnOk P w K mg base CX0 3 g gd ["self", "pair"] (spProper C)) :
    FnOk P w K mg base CX0 4 f fd ["self", "pair"] (spTake C) := by
  refine F.ok scTake (fun vs H Q E h => ?_) (fun cdv A outer s H vs Q E hr h => ?_)
  · obtain ⟨H0, J, a, al, ps, TT, l, m, dx, pa, tl, rd, nd, as, kvs, lg, rfl, _⟩ := h
    rfl
  · obtain ⟨H0, J, a, al, ps, TT, l, m, dx, pa, tl, rd, nd, as, kvs, lg, rfl, s0, nJ, nt, nr, nn, j, ha, N, k⟩ := h
    have hu := hu_of hr
    have hTl := N.few
    have hl := N.l_lt
    have hm := N.m_lt
    have hlen := N.pl.len
    have hsl := N.pl.tx_short (N.pl.size hl)
    have hsm := N.pl.tx_short (N.pl.size hm)
    refine ⟨_, pss_cons (ps_set (i := 2) scTake.nd rfl (Or.inl rfl) (pe_callB call_len_seq (by rfl) B.len b_len (pa_cons (pe_fld (pv 0) rfl) pa_nil)))
      (pss_cons (ps_if (pt_not (pt_val (pe_meth (pv 0) T.cl M.m G hr M.b .nil pass0 (pa_cons (pv 1) pa_nil)))) (pss_one ps_never) pss_nil)
      (pss_cons (ps_set (i := 3) scTake.nd rfl (Or.inl rfl) (pe_op op_add_str (pe_ix ix_list (pe_fld (pv 0) rfl) (pe_ix ix_tup (pv 1) pe_int (fun _ _ => rfl)) (fun _ _ => rfl)) (pe_ix ix_list (pe_fld (pv 0) rfl) (pe_ix ix_tup (pv 1) pe_int (fun _ _ => rfl)) (fun _ _ => rfl))))
      (pss_cons (ps_fld (pv 0) (pe_op op_catA (pe_fld (pv 0) rfl) (pe_tup (pa_cons (pv 1) pa_nil))) rfl)
      (pss_cons (ps_dput hu (pe_fld (pv 0) rfl) (pv 3) (pe_callB call_len_seq (by rfl) B.len b_len (pa_cons (pe_fld (pv 0) rfl) pa_nil)) rfl)
      (pss_cons (ps_expr (pe_bm PySem.F.plainAttrs_list PySem.F.slot_list_append PySem.F.type_list_append mt_append (pe_fld (pv 0) rfl) (pa_cons (pv 3) pa_nil)))
      (pss_cons (ps_dput hu (pe_fld (pv 0) rfl) (pv 1) (pv 2) rfl)
      (pss_one (ps_fld (pv 0) (pe_callB (call_max2 rfl) (by rfl) B.max b_max (pa_cons (pe_fld (pv 0) rfl) (pa_cons (pe_callB call_len_str (by rfl) B.len b_len (pa_cons (pv 3) pa_nil)) pa_nil))) rfl)))))))), ?_⟩
    refine ⟨_, rfl, J, C, dx, _, _, rfl, j.ob, T.cl, T.nP, jF_pairs .., pa, _, rfl, .inr (SqT.of j.pa), ?_⟩
    refine ⟨_, rfl, J, dx, _, rfl, j.ob, jF_no _ _ _ _ _ _ (by decide +kernel) (by decide +kernel) (by decide +kernel) (by decide +kernel) (by decide +kernel) (by decide +kernel), _, rfl, ?_⟩
    refine ⟨J, a, al, ps, TT, l, m, rfl, ⟨dx, pa, tl, rd, nd, as, kvs, lg, j⟩, ha, N, fun H1 s1 => ⟨true, rfl, iteF ?_⟩⟩
    have j1 := j.same s1
    have ha1 := s1 _ _ ha
    -- text
    refine ⟨_, rfl, J, C, dx, _, _, rfl, j1.ob, T.cl, T.nT, jF_texts .., _, rfl, a, _, _, _, rfl, rfl, SqT.of ha1, atN (j := 0) rfl rfl, tl, _, _, _, rfl, rfl, SqL.of j1.tl, atN (j := l) rfl (txV_get hl), ?_⟩
    refine ⟨_, rfl, J, C, dx, _, _, rfl, j1.ob, T.cl, T.nT, jF_texts .., _, rfl, a, _, _, _, rfl, rfl, SqT.of ha1, atN (j := 1) rfl rfl, tl, _, _, _, rfl, rfl, SqL.of j1.tl, atN (j := m) rfl (txV_get hm), ?_⟩
    refine ⟨_, _, rfl, rfl, (by rw [sOf_len, sOf_len]; exact small_line (by omega)), ?_⟩
    rw [sOf_app]
    -- self.pairs = self.pairs + (pair,)
    refine ⟨_, rfl, J, C, dx, _, _, rfl, j1.ob, T.cl, T.nP, jF_pairs .., _, rfl, (by show 1 ≤ sizeLine; exact small_line (by decide)), fun t ht => ?_⟩
    have s2 := Same_nn (o := .tup [V.ref a]) s1 ht
    have j2 := j.same s2
    have las : as.length = ps.length := j.prs.len
    refine catA_one j2.pa upd_same (by unfold refs; rw [List.length_map]; omega) fun pa' H3 s3 hpa => ?_
    rw [refs_snoc] at hpa
    have s03 := s2.trans s3
    have j3 := j.same s03
    have ha3 := s03 _ _ ha
    have S03 := s0.trans s03
    have nJt : J ≠ tl := ne_of j.ob j.tl (by intro q; cases q)
    have nJr : J ≠ rd := ne_of j.ob j.rd (by intro q; cases q)
    have nJn : J ≠ nd := ne_of j.ob j.nd (by intro q; cases q)
    have ntr : tl ≠ rd := ne_of j.tl j.rd (by intro q; cases q)
    have ntn : tl ≠ nd := ne_of j.tl j.nd (by intro q; cases q)
    have nrn : rd ≠ nd := ne_of j.rd j.nd (by intro q; cases q)
    refine ⟨_, rfl, J, C, dx, _, rfl, j3.ob, T.cl, T.nP, (by show 6 < 1000; decide), ?_⟩
    rw [jF_set_pairs]
    -- self.numbers[text] = len(self.texts)
    generalize e4 : upd H3 J (.ins C dx (jF al pa' tl rd nd lg)) = H4
    have o4 : H4 J = some (.ins C dx (jF al pa' tl rd nd lg)) := by rw [← e4]; exact upd_same
    have t4 : H4 tl = some (.lst (txV al TT)) := by rw [← e4, upd_ne nJt.symm]; exact j3.tl
    have r4 : H4 rd = some (.dT (rk ps)) := by rw [← e4, upd_ne nJr.symm]; exact j3.rd
    have n4 : H4 nd = some (.dK kvs) := by rw [← e4, upd_ne nJn.symm]; exact j3.nd
    have k4 : Tk H3 H4 := by rw [← e4]; exact Tk.upd j3.ob (fun xs q => nomatch q)
    have S04 : Same H0 H4 := by rw [← e4]; exact Same_put S03 nJ
    have few := j.few
    refine ⟨_, rfl, J, C, dx, _, _, rfl, o4, T.cl, T.nT, jF_texts .., tl, _, rfl, .inl (SqL.of t4), _, rfl, J, C, dx, _, _, rfl, o4, T.cl, T.nN, jF_numbers .., _, rfl, nd, _, rfl, DPut.k (k := Sum.inr (sOf al (tx TT l ++ tx TT m))) n4 (small_lt (by omega)), ?_⟩
    rw [txV_len]
    generalize e5 : upd H4 nd (.dK (putK kvs (Sum.inr (sOf al (tx TT l ++ tx TT m))) (V.int (TT.length : Int)))) = H5
    have o5 : H5 J = some (.ins C dx (jF al pa' tl rd nd lg)) := by rw [← e5, upd_ne nJn]; exact o4
    have t5 : H5 tl = some (.lst (txV al TT)) := by rw [← e5, upd_ne ntn]; exact t4
    have r5 : H5 rd = some (.dT (rk ps)) := by rw [← e5, upd_ne nrn]; exact r4
    have n5 : H5 nd = some (.dK (putK kvs (Sum.inr (sOf al (tx TT l ++ tx TT m))) (V.int (TT.length : Int)))) := by rw [← e5]; exact upd_same
    have k5 : Tk H4 H5 := by rw [← e5]; exact Tk.upd n4 (fun xs q => nomatch q)
    have S05 : Same H0 H5 := by rw [← e5]; exact Same_put S04 nn
    -- self.texts.append(text)
    refine ⟨_, rfl, J, C, dx, _, _, rfl, o5, T.cl, T.nT, jF_texts .., .inl ⟨rfl, _, SqL.of t5⟩, _, rfl, tl, _, _, rfl, rfl, t5, (by rw [txV_len]; exact small_lt (by omega)), ?_⟩
    rw [txV_snoc]
    generalize e6 : upd H5 tl (.lst (txV al (TT ++ [tx TT l ++ tx TT m]))) = H6
    have o6 : H6 J = some (.ins C dx (jF al pa' tl rd nd lg)) := by rw [← e6, upd_ne nJt]; exact o5
    have t6 : H6 tl = some (.lst (txV al (TT ++ [tx TT l ++ tx TT m]))) := by rw [← e6]; exact upd_same
    have r6 : H6 rd = some (.dT (rk ps)) := by rw [← e6, upd_ne ntr.symm]; exact r5
    have n6 : H6 nd = some (.dK (putK kvs (Sum.inr (sOf al (tx TT l ++ tx TT m))) (V.int (TT.length : Int)))) := by rw [← e6, upd_ne ntn.symm]; exact n5
    have k6 : Tk H5 H6 := by rw [← e6]; exact Tk.upd t5 (fun xs q => nomatch q)
    have S06 : Same H0 H6 := by rw [← e6]; exact Same_put S05 nt
    -- self.ranks[pair] = rank
    have ha6 : H6 a = some (.tup ((kOf (l, m)).map kV)) := k6 _ _ (k5 _ _ (k4 _ _ ha3))
    refine ⟨_, rfl, _, rfl, J, C, dx, _, _, rfl, o6, T.cl, T.nR, jF_ranks .., _, rfl, rd, _, rfl, DPut.t r6 ha6 (by rw [rk_len]; exact small_lt (by omega)), ?_⟩
    have er : V.int (((refs as).length : Nat) : Int) = iV ps.length := by unfold refs iV; rw [List.length_map, las]
    rw [er, rk_put N.new]
    generalize e7 : upd H6 rd (.dT (rk (ps ++ [(l, m)]))) = H7
    have o7 : H7 J = some (.ins C dx (jF al pa' tl rd nd lg)) := by rw [← e7, upd_ne nJr]; exact o6
    have t7 : H7 tl = some (.lst (txV al (TT ++ [tx TT l ++ tx TT m]))) := by rw [← e7, upd_ne ntr]; exact t6
    have r7 : H7 rd = some (.dT (rk (ps ++ [(l, m)]))) := by rw [← e7]; exact upd_same
    have n7 : H7 nd = some (.dK (putK kvs (Sum.inr (sOf al (tx TT l ++ tx TT m))) (V.int (TT.length : Int)))) := by rw [← e7, upd_ne nrn.symm]; exact n6
    have k7 : Tk H6 H7 := by rw [← e7]; exact Tk.upd r6 (fun xs q => nomatch q)
    have S07 : Same H0 H7 := by rw [← e7]; exact Same_put S06 nr
    -- self.longest = max(self.longest, len(text))
    refine ⟨_, rfl, J, C, dx, _, _, rfl, o7, T.cl, T.nL, jF_longest .., _, rfl, _, rfl, (by rw [sOf_len]; exact small_line (by have := N.short; omega)), _, _, rfl, ?_⟩
    refine ⟨_, rfl, J, C, dx, _, rfl, o7, T.cl, T.nL, (by show 6 < 1000; decide), ?_⟩
    rw [jF_set_longest]
    have k8 : Tk H3 (upd H7 J (.ins C dx (jF al pa' tl rd nd (if (((sOf al (tx TT l ++ tx TT m)).length : Nat) : Int) > lg then (((sOf al (tx TT l ++ tx TT m)).length : Nat) : Int) else lg)))) :=
      ((((k4.trans k5).trans k6).trans k7).trans (Tk.upd o7 (fun xs q => nomatch q)))
    refine k _ pa' (putK kvs (Sum.inr (sOf al (tx TT l ++ tx TT m))) (V.int (TT.length : Int))) _ (Same_put S07 nJ) ⟨upd_same, k8 _ _ hpa, (j3.prs.snoc ha3).tk k8, ?_, ?_, ?_, fun i c hc => ?_, ?_⟩
    · rw [upd_ne nJt.symm]; exact t7
    · rw [upd_ne nJr.symm]; exact r7
    · rw [upd_ne nJn.symm]; exact n7
    · rw [valV_put, if_neg (fun z => ?_)]
      · exact j.num i c hc
      · injection z with z
        have z2 : (⟨#[c]⟩ : Str).cps.size = (sOf al (tx TT l ++ tx TT m)).cps.size := by rw [z]
        rw [sOf_size, List.length_append] at z2
        have l1 : 0 < (tx TT l).length := List.length_pos_iff.mpr (N.pl.tx_ne l (N.pl.size hl))
        have l2 : 0 < (tx TT m).length := List.length_pos_iff.mpr (N.pl.tx_ne m (N.pl.size hm))
        have z3 : (⟨#[c]⟩ : Str).cps.size = 1 := rfl
        omega
    · have := length_putK kvs (Sum.inr (sOf al (tx TT l ++ tx TT m)) : Key) (V.int (TT.length : Int))
      rw [List.length_append, List.length_singleton]
      omega
/-! ### Joins(alphabet, pairs) -/
def hide (H : Hp) (J : Addr) : Hp := fun b => if b = J then none else H b
theorem hide_J {H : Hp} {J : Addr} : hide H J J = none := if_pos rfl
theorem hide_same (H : Hp) (J : Addr) : Same (hide H J) H := fun b o e => by
  unfold hide at e
  by_cases c : b = J
  · rw [if_pos c] at e; cases e
  · rw [if_neg c] at e; exact e
theorem of_hide {H H' : Hp} {J : Addr} (s : Same (hide H J) H') : ∀ b o, H b = some o → b ≠ J → H' b = some o := fun b o e n => s b o (by unfold hide; rw [if_neg n]; exact e)
theorem txV_base {al : List Nat} {ps : List (Nat × Nat)} {T : List (List Nat)} (h : PL al.length ps T) : (sAl al).cps.toList.map (fun c => V.str ⟨#[c]⟩) = txV al (T.take (al.length + 0)) := by
  have hl := h.len
  refine List.ext_getElem? fun i => ?_
  show (al.map fun c => V.str ⟨#[c]⟩)[i]? = _
  by_cases c : i < al.length
  · have ex : al[i]? = some al[i] := List.getElem?_eq_getElem c
    rw [List.getElem?_map, ex]
    unfold txV
    rw [List.getElem?_map, List.getElem?_take_of_lt (by omega), h.lett i c]
    show some (V.str ⟨#[al[i]]⟩) = some (V.str (sOf al [i]))
    rw [sOf_one ex]
  · rw [List.getElem?_eq_none (by rw [List.length_map]; omega), List.getElem?_eq_none (by rw [txV_len, List.length_take]; omega)]
def spInit (C : Addr) : L2.Sp := fun vs H Q _ => ∃ (J dx tp : Addr) (al : List Nat) (ps : List (Nat × Nat)) (T : List (List Nat)) (as : List Addr),
  vs = [.ref J, .str (sAl al), .ref tp] ∧ H J = some (.ins C dx []) ∧ Alph al ∧ H tp = some (.tup (refs as)) ∧ Prs H as ps ∧ PL al.length ps T ∧ T.length ≤ 900 ∧
  ∀ (H' : Hp), (∀ b o, H b = some o → b ≠ J → H' b = some o) → JAt C H' J al ps T → Q .non H'
theorem scInit : FnScope ["self", "alphabet", "pairs", "pair", "at", "letter"] ["self", "alphabet", "pairs"] (defScope sInit) := ⟨rfl, rfl, rfl, by decide +kernel, rfl, by decide +kernel, by decide +kernel⟩
theorem ok_init {f g c : Addr} {fd gd cd : FuncData} (F : Fun K "__init__" "Joins.__init__" sInit f fd) (T : Txt K mg C) (B : Bn mg) (CC : Cal K mg "checked_alphabet" sChecked c cd ["alphabet"]) (GC : FnOk P w K mg base CX0 2 c cd ["alphabet"] spChecked)
    (M : Met K C "take" "Joins.take" sTake g gd ["self", "pair"]) (G : FnOk P w K mg base CX0 4 g gd ["self", "pair"] (spTake C)) : FnOk P w K mg base CX0 5 f fd ["self", "alphabet", "pairs"] (spInit C) := by
  refine F.ok scInit (fun vs H Q E h => ?_) (fun cdv A outer s H vs Q E hr h => ?_)
  · obtain ⟨J, dx, tp, al, ps, TT, as, rfl, _⟩ := h
    rfl
  · obtain ⟨J, dx, tp, al, ps, TT, as, rfl, hJ, hA, htp, hprs, hPL, hT, k⟩ := h
    have hr2 : Room 2 _ := hr.mono (by decide)
    have hal : (sAl al).cps.size = al.length := rfl
    have hale := hA.le
    have hlen := hPL.len
    refine ⟨_, pss_cons (ps_fld (pv 0) (pe_call GC hr2 (by rfl) CC.g CC.F.kp CC.b .nil pass0 (pa_cons (pv 1) pa_nil)) rfl)
      (pss_cons (ps_fld (pv 0) (pe_tup pa_nil) rfl)
      (pss_cons (ps_fld (pv 0) (pe_callTy (call_listS rfl) (by rfl) B.list b_list (pa_cons (pv 1) pa_nil)) rfl)
      (pss_cons (ps_fld (pv 0) pe_dnewT rfl)
      (pss_cons (ps_fld (pv 0) (pe_dc (own := [("letter", 5), ("at", 4)]) (g := gTup K 2 (gCons (gName 4) (gCons (gName 5) gNil))) (tt := tYes) rfl scInit.nd (pi_enumS (by rfl) B.enumerate (pa_cons (pv 1) pa_nil)) (blkOk_by (N := ["self", "alphabet", "pairs", "pair", "at", "letter"]) (sc := defScope sInit) (by decide +kernel))
            (fun _ _ _ _ _ => pg_tup rfl (pgs_cons (pg_name (i := 4) scInit.nd rfl (Or.inl rfl)) (pgs_cons (pg_name (i := 5) scInit.nd rfl (Or.inl rfl)) pgs_nil))) (fun _ _ _ _ _ => pts_nil) (fun _ _ _ _ _ => pv 5) (fun _ _ _ _ _ => pv 4)) rfl)
      (pss_cons (ps_fld (pv 0) pe_int rfl)
      (pss_one (ps_for PassesOwn.never rfl (pi_tup (pv 2)) (pg_name (i := 3) scInit.nd rfl (Or.inl rfl))
        (pss_one (ps_expr (pe_meth (pv 0) T.cl M.m G hr M.b .nil pass0 (pa_cons (pe_callTy call_tuple_of (by rfl) B.tuple b_tuple (pa_cons (pv 3) pa_nil)) pa_nil))))))))))), ?_⟩
    have s0 := hide_same H J
    have nJ := hide_J (H := H) (J := J)
    -- self.alphabet
    refine ⟨_, rfl, al, rfl, hA, _, rfl, J, C, dx, _, rfl, hJ, T.cl, T.nA, (by show 0 < 1000; decide), ?_⟩
    have S1 := Same_put (o := .ins C dx (putF "alphabet" (.str (sAl al)) [])) s0 nJ
    -- self.pairs = ()
    refine ⟨Nat.zero_le _, fun pa hpa => ?_⟩
    have nJp : J ≠ pa := ne_of_none upd_same hpa
    have npa0 := S1.free hpa
    have S2 := Same_nn (o := .tup []) S1 hpa
    refine ⟨_, rfl, J, C, dx, _, rfl, (by rw [upd_ne nJp]; exact upd_same), T.cl, T.nP, (by show 1 < 1000; decide), ?_⟩
    generalize e3 : upd (upd (upd H J (.ins C dx (putF "alphabet" (.str (sAl al)) []))) pa (.tup [])) J (.ins C dx (putF "pairs" (.ref pa) (putF "alphabet" (.str (sAl al)) []))) = H3
    have S3 : Same (hide H J) H3 := by rw [← e3]; exact Same_put S2 nJ
    have o3 : H3 J = some (.ins C dx (putF "pairs" (.ref pa) (putF "alphabet" (.str (sAl al)) []))) := by rw [← e3]; exact upd_same
    have p3 : H3 pa = some (.tup []) := by rw [← e3, upd_ne nJp.symm]; exact upd_same
    -- self.texts = list(alphabet)
    refine ⟨_, rfl, _, rfl, (by rw [hal]; exact small_line (by omega)), fun tl htl => ?_⟩
    rw [txV_base hPL]
    have nJt : J ≠ tl := ne_of_none o3 htl
    have npt : pa ≠ tl := ne_of_none p3 htl
    have ntl0 := S3.free htl
    refine ⟨_, rfl, J, C, dx, _, rfl, (by rw [upd_ne nJt]; exact o3), T.cl, T.nT, (by show 2 < 1000; decide), ?_⟩
    generalize e4 : upd (upd H3 tl (.lst (txV al (TT.take (al.length + 0))))) J (.ins C dx (putF "texts" (.ref tl) (putF "pairs" (.ref pa) (putF "alphabet" (.str (sAl al)) [])))) = H4
    have S4 : Same (hide H J) H4 := by rw [← e4]; exact Same_put (Same_put S3 ntl0) nJ
    have o4 : H4 J = some (.ins C dx (putF "texts" (.ref tl) (putF "pairs" (.ref pa) (putF "alphabet" (.str (sAl al)) [])))) := by rw [← e4]; exact upd_same
    have p4 : H4 pa = some (.tup []) := by rw [← e4, upd_ne nJp.symm, upd_ne npt]; exact p3
    have t4 : H4 tl = some (.lst (txV al (TT.take (al.length + 0)))) := by rw [← e4, upd_ne nJt.symm]; exact upd_same
    -- self.ranks = {}
    intro rd hrd
    have nJr : J ≠ rd := ne_of_none o4 hrd
    have npr : pa ≠ rd := ne_of_none p4 hrd
    have ntr : tl ≠ rd := ne_of_none t4 hrd
    have nrd0 := S4.free hrd
    refine ⟨_, rfl, J, C, dx, _, rfl, (by rw [upd_ne nJr]; exact o4), T.cl, T.nR, (by show 3 < 1000; decide), ?_⟩
    generalize e5 : upd (upd H4 rd (.dT [])) J (.ins C dx (putF "ranks" (.ref rd) (putF "texts" (.ref tl) (putF "pairs" (.ref pa) (putF "alphabet" (.str (sAl al)) []))))) = H5
    have S5 : Same (hide H J) H5 := by rw [← e5]; exact Same_put (Same_put S4 nrd0) nJ
    have o5 : H5 J = some (.ins C dx (putF "ranks" (.ref rd) (putF "texts" (.ref tl) (putF "pairs" (.ref pa) (putF "alphabet" (.str (sAl al)) []))))) := by rw [← e5]; exact upd_same
    have p5 : H5 pa = some (.tup []) := by rw [← e5, upd_ne nJp.symm, upd_ne npr]; exact p4
    have t5 : H5 tl = some (.lst (txV al (TT.take (al.length + 0)))) := by rw [← e5, upd_ne nJt.symm, upd_ne ntr]; exact t4
    have r5 : H5 rd = some (.dT []) := by rw [← e5, upd_ne nJr.symm]; exact upd_same
    -- self.numbers = {..}
    refine ⟨_, rfl, _, rfl, fun nd hnd => dc_it walk_enumS (fun i H' => Same H5 H' ∧ ∃ kvs, H' nd = some (.dK kvs) ∧ kvs.length ≤ i ∧ ∀ (q c : Nat), q < i → al[q]? = some c → valV kvs (Sum.inr ⟨#[c]⟩ : Key) = some (iV q)) ⟨Same_new hnd, [], upd_same, Nat.le_refl _, fun q c hq _ => absurd hq (by omega)⟩ (fun _ _ _ _ => True.intro) ?_ ?_⟩
    · rintro i x H6 H7 hi ⟨S6, kvs, hk, hkl, hv⟩ ⟨t, c, rfl, ht, hc, rfl⟩
      rw [hal] at hi
      have hca : al[i]? = some c := by simpa [sAl] using hc
      have nnt : nd ≠ t := ne_of_none hk ht
      refine ⟨t, _, rfl, SqT.of upd_same, rfl, _, _, rfl, _, _, rfl, rfl, rfl, ?_⟩
      refine ⟨_, rfl, _, rfl, kvs, Sum.inr ⟨#[c]⟩, rfl, (by rw [upd_ne nnt]; exact hk), small_lt (by omega), Same_put (Same_nn S6 ht) hnd, _, upd_same, ?_, fun q c' hq hc' => ?_⟩
      · have := length_putK kvs (Sum.inr ⟨#[c]⟩ : Key) (V.int (i : Int))
        omega
      · rw [valV_put]
        by_cases e : q = i
        · subst e
          rw [hca] at hc'
          have : c = c' := Option.some.inj hc'
          subst this
          rw [if_pos rfl]
          rfl
        · rw [if_neg fun z => ?_]
          · exact hv q c' (by omega) hc'
          · have := str_one_inj z
            subst this
            exact e (hA.inj hc' hca)
    rintro H6 ⟨S6, kvs, hk, hkl, hv⟩
    rw [hal] at hkl hv
    have o6 := S6 _ _ o5
    refine ⟨_, rfl, J, C, dx, _, rfl, o6, T.cl, T.nN, (by show 4 < 1000; decide), ?_⟩
    have nJn : J ≠ nd := ne_of o6 hk (by intro q; cases q)
    have nrn : rd ≠ nd := ne_of_none r5 hnd
    have ntn : tl ≠ nd := ne_of_none t5 hnd
    have nnd0 : hide H J nd = none := S5.free hnd
    refine ⟨_, rfl, J, C, dx, _, rfl, upd_same, T.cl, T.nL, (by show 5 < 1000; decide), ?_⟩
    rw [jF_new]
    generalize e8 : upd (upd H6 J (.ins C dx (putF "numbers" (.ref nd) (putF "ranks" (.ref rd) (putF "texts" (.ref tl) (putF "pairs" (.ref pa) (putF "alphabet" (.str (sAl al)) []))))))) J (.ins C dx (jF al pa tl rd nd 1)) = H8
    have S8 : Same (hide H J) H8 := by rw [← e8]; exact Same_put (Same_put (S5.trans S6) nJ) nJ
    have j8 : JA C H8 J al (ps.take 0) (TT.take (al.length + 0)) dx pa tl rd nd (as.take 0) kvs 1 := by
      have g : ∀ b o, b ≠ J → H5 b = some o → H8 b = some o := fun b o n e => by rw [← e8, upd_ne n, upd_ne n]; exact S6 _ _ e
      refine ⟨by rw [← e8]; exact upd_same, g _ _ nJp.symm p5, Prs.nil, g _ _ nJt.symm t5, g _ _ nJr.symm r5, by rw [← e8, upd_ne nJn.symm, upd_ne nJn.symm]; exact hk, fun i c hc => hv i c (List.getElem?_eq_some_iff.mp hc).1 hc, ?_⟩
      rw [List.length_take]; omega
    -- for pair in pairs: self.take(tuple(pair))
    have las := hprs.len
    have htp0 : ∀ {H' : Hp}, Same (hide H J) H' → H' tp = some (.tup (refs as)) := fun s => of_hide s _ _ htp (ne_of htp hJ (by intro q; cases q))
    refine ⟨_, rfl, tp, rfl, ⟨_, SqT.of (htp0 S8)⟩, for_tup (K := K) (a := tp) (xs := refs as) (fun i σ H' => ∃ (v : Option V) (pa' : Addr) (kvs' : List (Key × V)) (lg' : Int), σ = [some (.ref J), some (.str (sAl al)), some (.ref tp), v, none, none] ∧ Same (hide H J) H' ∧
      JA C H' J al (ps.take i) (TT.take (al.length + i)) dx pa' tl rd nd (as.take i) kvs' lg') ⟨none, pa, kvs, 1, rfl, S8, j8⟩ (fun i σ H' _ ⟨_, _, _, _, _, s, _⟩ => SqT.of (htp0 s)) ?_ ?_⟩
    · rintro i x σ H' hx ⟨v, pa', kvs', lg', rfl, s, j⟩
      obtain ⟨a, ha, rfl⟩ := refs_inv hx
      have hi : i < as.length := (List.getElem?_eq_some_iff.mp ha).1
      have ep : ps[i]? = some (ps[i].1, ps[i].2) := List.getElem?_eq_getElem (by omega)
      have hta := hprs.at_ i a _ ha ep
      have hta' := of_hide s _ _ hta (ne_of hta hJ (by intro q; cases q))
      have jn := hPL.join i _ _ ep
      have lt := hPL.low i _ _ ep
      have pt := hPL.take (i := i) (by omega)
      have tl' : (TT.take (al.length + i)).length = al.length + i := by rw [List.length_take]; omega
      have e1 : tx (TT.take (al.length + i)) ps[i].1 = tx TT ps[i].1 := tx_take lt.1
      have e2 : tx (TT.take (al.length + i)) ps[i].2 = tx TT ps[i].2 := tx_take lt.2
      refine ⟨_, rfl, J, dx, _, rfl, j.ob, jF_no _ _ _ _ _ _ (by decide +kernel) (by decide +kernel) (by decide +kernel) (by decide +kernel) (by decide +kernel) (by decide +kernel), _, rfl, a, _, rfl, .inr ⟨SqT.of hta', ?_⟩⟩
      refine ⟨hide H J, J, a, al, ps.take i, TT.take (al.length + i), ps[i].1, ps[i].2, dx, pa', tl, rd, nd, as.take i, kvs', lg', rfl, s, nJ, ntl0, nrd0, nnd0, j, hta', ?_, fun H2 pa2 kvs2 lg2 s2 j2 => ?_⟩
      · refine ⟨pt, by rw [tl']; exact lt.1, by rw [tl']; exact lt.2, ?_, ?_, by rw [tl']; omega, hA⟩
        · rw [e1, e2]; exact jn.2.2.2.1
        · rw [e1, e2]; exact jn.2.2.2.2
      · refine ⟨_, pa2, kvs2, lg2, rfl, s2, ?_⟩
        have e3 : TT.take (al.length + (i + 1)) = TT.take (al.length + i) ++ [tx TT ps[i].1 ++ tx TT ps[i].2] := take_succ jn.2.2.1
        rw [take_succ ep, e3, take_succ ha]
        rw [e1, e2] at j2
        exact j2
    · rintro σ H' ⟨v, pa', kvs', lg', rfl, s, j⟩
      have e0 : (refs as).length = ps.length := by unfold refs; rw [List.length_map]; exact las
      have e1 : ps.take (refs as).length = ps := by rw [e0]; exact List.take_length
      have e2 : TT.take (al.length + (refs as).length) = TT := by rw [e0, ← hlen]; exact List.take_length
      rw [e1, e2] at j
      exact k _ (of_hide s) ⟨_, _, _, _, _, _, _, _, j⟩
end
end RJ

set_option Elab.async false
set_option maxRecDepth 100000
set_option maxHeartbeats 4000000
namespace RJ
open PySem L2
def bV : Option Nat → V
  | none => .non
  | some q => iV q
def spV (e : Nat × Option Nat) : List V := [iV e.1, bV e.2]
/-- a spine stands at the addresses as -/
structure Sps (H : Hp) (as : List Addr) (L : List (Nat × Option Nat)) : Prop where
  len : as.length = L.length
  at_ : ∀ (i : Nat) (a : Addr) (e : Nat × Option Nat), as[i]? = some a → L[i]? = some e → H a = some (.tup (spV e))
theorem Sps.same {H H' : Hp} {as : List Addr} {L : List (Nat × Option Nat)} (h : Sps H as L) (s : Same H H') : Sps H' as L := ⟨h.len, fun i a p e1 e2 => s _ _ (h.at_ i a p e1 e2)⟩
theorem Sps.tk {H H' : Hp} {as : List Addr} {L : List (Nat × Option Nat)} (h : Sps H as L) (s : Tk H H') : Sps H' as L := ⟨h.len, fun i a p e1 e2 => s _ _ (h.at_ i a p e1 e2)⟩
theorem Sps.one {H : Hp} {a : Addr} {e : Nat × Option Nat} (h : H a = some (.tup (spV e))) : Sps H [a] [e] := ⟨rfl, fun i b f e1 e2 => by
  cases i with
  | zero =>
    have h1 : a = b := Option.some.inj e1
    have h2 : e = f := Option.some.inj e2
    subst h1; subst h2
    exact h
  | succ i => simp at e1⟩
theorem Sps.snoc {H : Hp} {as : List Addr} {L : List (Nat × Option Nat)} {a : Addr} {e : Nat × Option Nat} (h : Sps H as L) (he : H a = some (.tup (spV e))) : Sps H (as ++ [a]) (L ++ [e]) := by
  have hl := h.len
  refine ⟨by simp [hl], fun i b q e1 e2 => ?_⟩
  by_cases c : i < as.length
  · rw [List.getElem?_append_left c] at e1
    rw [List.getElem?_append_left (by omega)] at e2
    exact h.at_ i b q e1 e2
  · have hi : i < (as ++ [a]).length := (List.getElem?_eq_some_iff.mp e1).1
    have : i = as.length := by simp at hi; omega
    subst this
    rw [List.getElem?_append_right (Nat.le_refl _)] at e1
    rw [List.getElem?_append_right (by omega)] at e2
    simp at e1
    simp [hl] at e2
    subst e1; subst e2
    exact he
def spSpine (sel : Nat × Nat → Nat) (C : Addr) : L2.Sp := fun vs H Q _ => ∃ (J : Addr) (al : List Nat) (ps : List (Nat × Nat)) (T : List (List Nat)) (p : Nat), vs = [.ref J, iV p] ∧ JAt C H J al ps T ∧ PL al.length ps T ∧ p < T.length ∧ T.length ≤ 900 ∧
  ∀ (H' : Hp) (q : Addr) (as : List Addr) (L : List (Nat × Option Nat)), Same H H' → Spn sel al.length ps p L → Sps H' as ((p, none) :: L) → H' q = some (.tup (refs as)) → Q (.ref q) H'
section
variable {P : Program} {w : World} {K : PySem.W.Frag} {mg : Str → Option Value} {base : Heap} {C : Addr}
/-! ### right_spine -/
theorem scRight : FnScope ["joins", "piece", "parts", "spine"] ["joins", "piece"] (defScope sRight) := ⟨rfl, rfl, rfl, by decide +kernel, rfl, by decide +kernel, by decide +kernel⟩
theorem ok_Right {f g : Addr} {fd gd : FuncData} (F : Fun K "right_spine" "right_spine" sRight f fd) (T : Txt K mg C) (B : Bn mg) (M : Met K C "parts_of" "Joins.parts_of" sParts g gd ["self", "piece"]) (G : FnOk P w K mg base CX0 4 g gd ["self", "piece"] (spParts C)) :
    FnOk P w K mg base CX0 5 f fd ["joins", "piece"] (spSpine Prod.snd C) := by
  refine F.ok scRight (fun vs H Q E h => ?_) (fun cdv A outer s H vs Q E hr h => ?_)
  · obtain ⟨J, al, ps, TT, p, rfl, _⟩ := h
    rfl
  · obtain ⟨J, al, ps, TT, p, rfl, hJ, hPL, hp, hT, k⟩ := h
    have hu := hu_of hr
    have hlen := hPL.len
    have nd : ND ps := fun q r p e1 e2 => hPL.nodup e1 e2
    refine ⟨_, pss_cons (ps_set (i := 2) scRight.nd rfl (Or.inl rfl) (pe_meth (pv 0) T.cl M.m G hr M.b .nil pass0 (pa_cons (pv 1) pa_nil)))
      (pss_cons (ps_set (i := 3) scRight.nd rfl (Or.inl rfl) (pe_lst (pa_cons (pe_tup (pa_cons (pv 1) (pa_cons pe_non pa_nil))) pa_nil)))
      (pss_cons (ps_while PassesOwn.never (pt_cmpR op_notN (pv 2) pe_non (nomark _))
        (pss_cons (ps_expr (pe_bm PySem.F.plainAttrs_list PySem.F.slot_list_append PySem.F.type_list_append mt_append (pv 3) (pa_cons (pe_tup (pa_cons (pe_ix ix_tup (pv 2) pe_int (fun _ _ => rfl)) (pa_cons (pe_dget hu (pe_fld (pv 0) rfl) (pv 2) (fun _ _ => rfl)) pa_nil))) pa_nil)))
        (pss_one (ps_set (i := 2) scRight.nd rfl (Or.inl rfl) (pe_meth (pv 0) T.cl M.m G hr M.b .nil pass0 (pa_cons (pe_ix ix_tup (pv 2) pe_int (fun _ _ => rfl)) pa_nil))))))
      (pss_one (ps_ret (pe_callTy call_tuple_of (by rfl) B.tuple b_tuple (pa_cons (pv 3) pa_nil)))))), ?_⟩
    have call : ∀ {H' : Hp}, Same H H' → ∃ dx pa tl rd nd as kvs lg, JA C H' J al ps TT dx pa tl rd nd as kvs lg := fun s => hJ.same s
    obtain ⟨dx, pa, tl, rd, nd0, as, kvs, lg, j⟩ := id hJ
    refine ⟨_, rfl, J, dx, _, rfl, j.ob, jF_no _ _ _ _ _ _ (by decide +kernel) (by decide +kernel) (by decide +kernel) (by decide +kernel) (by decide +kernel) (by decide +kernel), _, rfl, J, al, ps, TT, p, rfl, hJ, hlen, hp, by omega, fun v hv => ?_⟩
    refine ⟨_, rfl, (by show 2 ≤ sizeLine; decide), fun t ht => ?_⟩
    refine ⟨(by show 1 ≤ sizeLine; decide), fun l hl => ?_⟩
    have s1 : Same H (upd H t (.tup [iV p, .non])) := Same_new ht
    have nl : H l = none := s1.free hl
    refine ⟨fun M σ H' => ∃ (x : Nat) (v : V) (L0 : List (Nat × Option Nat)) (as0 : List Addr), M = x ∧ σ = [some (.ref J), some (iV p), some v, some (.ref l)] ∧ Same H H' ∧ H' l = some (.lst (refs as0)) ∧ Sps H' as0 ((p, none) :: L0) ∧ x < TT.length ∧ PartV al.length ps H' x v ∧ as0.length + x ≤ p + 1 ∧
        ∀ L1, Spn Prod.snd al.length ps x L1 → Spn Prod.snd al.length ps p (L0 ++ L1),
      ⟨_, p, v, [], [t], rfl, rfl, Same_put s1 nl, upd_same, (Sps.one (e := (p, none)) upd_same).same (Same_new hl), hp, (hv.same s1).same (Same_new hl), by simp; omega, fun L1 h => h⟩, ?_⟩
    rintro M σ H' ⟨x, v, L0, as0, rfl, rfl, s, hL, hsp, hx, hv, hle, hext⟩
    obtain ⟨dx, pa, tl, rd, nd1, as, kvs, lg, j⟩ := hJ.same s
    rcases hv with ⟨rfl, hn⟩ | ⟨a, pr, rfl, ha, hs⟩
    · refine ⟨_, rfl, rfl, false, rfl, iteF ?_⟩
      refine ⟨_, rfl, l, _, rfl, .inl ⟨SqL.of hL, fun q hq => ?_⟩⟩
      have fin := hext [] (.leaf hn)
      rw [List.append_nil] at fin
      exact k _ q as0 L0 (Same_nn s hq) fin (hsp.same (Same_new hq)) upd_same
    · refine ⟨_, rfl, rfl, true, rfl, iteT ?_⟩
      obtain ⟨r, rfl, er⟩ := parts_some hs
      have lt := IsSel.lt (sel := Prod.snd) (.inr rfl) hPL.low er
      have ht' : H' a = some (.tup ((kOf pr).map kV)) := ha
      refine ⟨fun σ' H'' => ∃ (x2 : Nat) (v : V) (L0 : List (Nat × Option Nat)) (as0 : List Addr), x2 < al.length + r ∧ σ' = [some (.ref J), some (iV p), some v, some (.ref l)] ∧ Same H H'' ∧ H'' l = some (.lst (refs as0)) ∧ Sps H'' as0 ((p, none) :: L0) ∧ x2 < TT.length ∧ PartV al.length ps H'' x2 v ∧ as0.length + x2 ≤ p + 1 ∧
        ∀ L1, Spn Prod.snd al.length ps x2 L1 → Spn Prod.snd al.length ps p (L0 ++ L1), fun σ' H'' ⟨x2, v, L0, as0, h1, h2⟩ => ⟨_, h1, x2, v, L0, as0, rfl, h2⟩, ?_⟩
      refine ⟨_, rfl, .inl ⟨rfl, _, SqL.of hL⟩, _, rfl, a, _, _, _, rfl, rfl, SqT.of ha, atN (j := 1) rfl rfl, ?_⟩
      refine ⟨_, rfl, J, C, dx, _, _, rfl, j.ob, T.cl, T.nR, jF_ranks .., _, rfl, rd, iV r, rfl, (by rw [← rk_some nd er]; exact DGet.t j.rd ht'), (by show 2 ≤ sizeLine; decide), fun t2 ht2 => ?_⟩
      have nlt : l ≠ t2 := ne_of_none hL ht2
      refine ⟨l, _, _, rfl, rfl, (by rw [upd_ne nlt]; exact hL), (by unfold refs; rw [List.length_map]; exact small_lt (by omega)), ?_⟩
      rw [refs_snoc]
      generalize e5 : upd (upd H' t2 (.tup [iV (Prod.snd pr), iV r])) l (.lst (refs (as0 ++ [t2]))) = H5
      have s5 : Same H H5 := by rw [← e5]; exact Same_put (Same_nn s ht2) nl
      have k5 : Tk (upd H' t2 (.tup [iV (Prod.snd pr), iV r])) H5 := by rw [← e5]; exact Tk.upd (o := .lst (refs as0)) (by rw [upd_ne nlt]; exact hL) (fun _ q => nomatch q)
      have k0 : Tk H' H5 := (Tk.of (Same_new ht2)).trans k5
      have t5 : H5 t2 = some (.tup (spV (Prod.snd pr, some r))) := k5 _ _ upd_same
      have hL5 : H5 l = some (.lst (refs (as0 ++ [t2]))) := by rw [← e5]; exact upd_same
      have sp5 := (hsp.tk k0).snoc t5
      obtain ⟨dx, pa, tl, rd, nd2, as, kvs, lg, j5⟩ := hJ.same s5
      have hx2 : Prod.snd pr < TT.length := by omega
      refine ⟨_, rfl, J, dx, _, rfl, j5.ob, jF_no _ _ _ _ _ _ (by decide +kernel) (by decide +kernel) (by decide +kernel) (by decide +kernel) (by decide +kernel) (by decide +kernel), _, rfl, a, _, _, _, rfl, rfl, SqT.of (k0 _ _ ha), atN (j := 1) rfl rfl, ?_⟩
      refine ⟨J, al, ps, TT, Prod.snd pr, rfl, hJ.same s5, hlen, hx2, by omega, fun v2 hv2 => ?_⟩
      refine ⟨Prod.snd pr, v2, L0 ++ [(Prod.snd pr, some r)], as0 ++ [t2], lt, rfl, s5, hL5, sp5, hx2, hv2, by simp; omega, fun L1 h1 => ?_⟩
      have h2 := hext ((Prod.snd pr, some r) :: L1) (by
        have := Spn.node (sel := Prod.snd) (b := al.length) (ps := ps) hs h1
        rw [Nat.add_sub_cancel_left] at this
        exact this)
      rw [List.append_assoc]
      exact h2
/-! ### left_spine -/
theorem scLeft : FnScope ["joins", "piece", "parts", "spine"] ["joins", "piece"] (defScope sLeft) := ⟨rfl, rfl, rfl, by decide +kernel, rfl, by decide +kernel, by decide +kernel⟩
theorem ok_Left {f g : Addr} {fd gd : FuncData} (F : Fun K "left_spine" "left_spine" sLeft f fd) (T : Txt K mg C) (B : Bn mg) (M : Met K C "parts_of" "Joins.parts_of" sParts g gd ["self", "piece"]) (G : FnOk P w K mg base CX0 4 g gd ["self", "piece"] (spParts C)) :
    FnOk P w K mg base CX0 5 f fd ["joins", "piece"] (spSpine Prod.fst C) := by
  refine F.ok scLeft (fun vs H Q E h => ?_) (fun cdv A outer s H vs Q E hr h => ?_)
  · obtain ⟨J, al, ps, TT, p, rfl, _⟩ := h
    rfl
  · obtain ⟨J, al, ps, TT, p, rfl, hJ, hPL, hp, hT, k⟩ := h
    have hu := hu_of hr
    have hlen := hPL.len
    have nd : ND ps := fun q r p e1 e2 => hPL.nodup e1 e2
    refine ⟨_, pss_cons (ps_set (i := 2) scLeft.nd rfl (Or.inl rfl) (pe_meth (pv 0) T.cl M.m G hr M.b .nil pass0 (pa_cons (pv 1) pa_nil)))
      (pss_cons (ps_set (i := 3) scLeft.nd rfl (Or.inl rfl) (pe_lst (pa_cons (pe_tup (pa_cons (pv 1) (pa_cons pe_non pa_nil))) pa_nil)))
      (pss_cons (ps_while PassesOwn.never (pt_cmpR op_notN (pv 2) pe_non (nomark _))
        (pss_cons (ps_expr (pe_bm PySem.F.plainAttrs_list PySem.F.slot_list_append PySem.F.type_list_append mt_append (pv 3) (pa_cons (pe_tup (pa_cons (pe_ix ix_tup (pv 2) pe_int (fun _ _ => rfl)) (pa_cons (pe_dget hu (pe_fld (pv 0) rfl) (pv 2) (fun _ _ => rfl)) pa_nil))) pa_nil)))
        (pss_one (ps_set (i := 2) scLeft.nd rfl (Or.inl rfl) (pe_meth (pv 0) T.cl M.m G hr M.b .nil pass0 (pa_cons (pe_ix ix_tup (pv 2) pe_int (fun _ _ => rfl)) pa_nil))))))
      (pss_one (ps_ret (pe_callTy call_tuple_of (by rfl) B.tuple b_tuple (pa_cons (pv 3) pa_nil)))))), ?_⟩
    have call : ∀ {H' : Hp}, Same H H' → ∃ dx pa tl rd nd as kvs lg, JA C H' J al ps TT dx pa tl rd nd as kvs lg := fun s => hJ.same s
    obtain ⟨dx, pa, tl, rd, nd0, as, kvs, lg, j⟩ := id hJ
    refine ⟨_, rfl, J, dx, _, rfl, j.ob, jF_no _ _ _ _ _ _ (by decide +kernel) (by decide +kernel) (by decide +kernel) (by decide +kernel) (by decide +kernel) (by decide +kernel), _, rfl, J, al, ps, TT, p, rfl, hJ, hlen, hp, by omega, fun v hv => ?_⟩
    refine ⟨_, rfl, (by show 2 ≤ sizeLine; decide), fun t ht => ?_⟩
    refine ⟨(by show 1 ≤ sizeLine; decide), fun l hl => ?_⟩
    have s1 : Same H (upd H t (.tup [iV p, .non])) := Same_new ht
    have nl : H l = none := s1.free hl
    refine ⟨fun M σ H' => ∃ (x : Nat) (v : V) (L0 : List (Nat × Option Nat)) (as0 : List Addr), M = x ∧ σ = [some (.ref J), some (iV p), some v, some (.ref l)] ∧ Same H H' ∧ H' l = some (.lst (refs as0)) ∧ Sps H' as0 ((p, none) :: L0) ∧ x < TT.length ∧ PartV al.length ps H' x v ∧ as0.length + x ≤ p + 1 ∧
        ∀ L1, Spn Prod.fst al.length ps x L1 → Spn Prod.fst al.length ps p (L0 ++ L1),
      ⟨_, p, v, [], [t], rfl, rfl, Same_put s1 nl, upd_same, (Sps.one (e := (p, none)) upd_same).same (Same_new hl), hp, (hv.same s1).same (Same_new hl), by simp; omega, fun L1 h => h⟩, ?_⟩
    rintro M σ H' ⟨x, v, L0, as0, rfl, rfl, s, hL, hsp, hx, hv, hle, hext⟩
    obtain ⟨dx, pa, tl, rd, nd1, as, kvs, lg, j⟩ := hJ.same s
    rcases hv with ⟨rfl, hn⟩ | ⟨a, pr, rfl, ha, hs⟩
    · refine ⟨_, rfl, rfl, false, rfl, iteF ?_⟩
      refine ⟨_, rfl, l, _, rfl, .inl ⟨SqL.of hL, fun q hq => ?_⟩⟩
      have fin := hext [] (.leaf hn)
      rw [List.append_nil] at fin
      exact k _ q as0 L0 (Same_nn s hq) fin (hsp.same (Same_new hq)) upd_same
    · refine ⟨_, rfl, rfl, true, rfl, iteT ?_⟩
      obtain ⟨r, rfl, er⟩ := parts_some hs
      have lt := IsSel.lt (sel := Prod.fst) (.inl rfl) hPL.low er
      have ht' : H' a = some (.tup ((kOf pr).map kV)) := ha
      refine ⟨fun σ' H'' => ∃ (x2 : Nat) (v : V) (L0 : List (Nat × Option Nat)) (as0 : List Addr), x2 < al.length + r ∧ σ' = [some (.ref J), some (iV p), some v, some (.ref l)] ∧ Same H H'' ∧ H'' l = some (.lst (refs as0)) ∧ Sps H'' as0 ((p, none) :: L0) ∧ x2 < TT.length ∧ PartV al.length ps H'' x2 v ∧ as0.length + x2 ≤ p + 1 ∧
        ∀ L1, Spn Prod.fst al.length ps x2 L1 → Spn Prod.fst al.length ps p (L0 ++ L1), fun σ' H'' ⟨x2, v, L0, as0, h1, h2⟩ => ⟨_, h1, x2, v, L0, as0, rfl, h2⟩, ?_⟩
      refine ⟨_, rfl, .inl ⟨rfl, _, SqL.of hL⟩, _, rfl, a, _, _, _, rfl, rfl, SqT.of ha, atN (j := 0) rfl rfl, ?_⟩
      refine ⟨_, rfl, J, C, dx, _, _, rfl, j.ob, T.cl, T.nR, jF_ranks .., _, rfl, rd, iV r, rfl, (by rw [← rk_some nd er]; exact DGet.t j.rd ht'), (by show 2 ≤ sizeLine; decide), fun t2 ht2 => ?_⟩
      have nlt : l ≠ t2 := ne_of_none hL ht2
      refine ⟨l, _, _, rfl, rfl, (by rw [upd_ne nlt]; exact hL), (by unfold refs; rw [List.length_map]; exact small_lt (by omega)), ?_⟩
      rw [refs_snoc]
      generalize e5 : upd (upd H' t2 (.tup [iV (Prod.fst pr), iV r])) l (.lst (refs (as0 ++ [t2]))) = H5
      have s5 : Same H H5 := by rw [← e5]; exact Same_put (Same_nn s ht2) nl
      have k5 : Tk (upd H' t2 (.tup [iV (Prod.fst pr), iV r])) H5 := by rw [← e5]; exact Tk.upd (o := .lst (refs as0)) (by rw [upd_ne nlt]; exact hL) (fun _ q => nomatch q)
      have k0 : Tk H' H5 := (Tk.of (Same_new ht2)).trans k5
      have t5 : H5 t2 = some (.tup (spV (Prod.fst pr, some r))) := k5 _ _ upd_same
      have hL5 : H5 l = some (.lst (refs (as0 ++ [t2]))) := by rw [← e5]; exact upd_same
      have sp5 := (hsp.tk k0).snoc t5
      obtain ⟨dx, pa, tl, rd, nd2, as, kvs, lg, j5⟩ := hJ.same s5
      have hx2 : Prod.fst pr < TT.length := by omega
      refine ⟨_, rfl, J, dx, _, rfl, j5.ob, jF_no _ _ _ _ _ _ (by decide +kernel) (by decide +kernel) (by decide +kernel) (by decide +kernel) (by decide +kernel) (by decide +kernel), _, rfl, a, _, _, _, rfl, rfl, SqT.of (k0 _ _ ha), atN (j := 0) rfl rfl, ?_⟩
      refine ⟨J, al, ps, TT, Prod.fst pr, rfl, hJ.same s5, hlen, hx2, by omega, fun v2 hv2 => ?_⟩
      refine ⟨Prod.fst pr, v2, L0 ++ [(Prod.fst pr, some r)], as0 ++ [t2], lt, rfl, s5, hL5, sp5, hx2, hv2, by simp; omega, fun L1 h1 => ?_⟩
      have h2 := hext ((Prod.fst pr, some r) :: L1) (by
        have := Spn.node (sel := Prod.fst) (b := al.length) (ps := ps) hs h1
        rw [Nat.add_sub_cancel_left] at this
        exact this)
      rw [List.append_assoc]
      exact h2
end
end RJ

set_option Elab.async false
set_option maxRecDepth 100000
set_option maxHeartbeats 4000000
namespace RJ
open PySem L2
/-! ### the least of what is found so far -/
theorem IsMin.congr {P P' : Nat → Prop} {o : Option Nat} (h : IsMin P o) (e : ∀ r, P r ↔ P' r) : IsMin P' o := by
  cases o with
  | none => exact fun r z => h r ((e r).mpr z)
  | some r => exact ⟨(e r).mp h.1, fun q z => h.2 q ((e q).mpr z)⟩
theorem IsMin.new {P : Nat → Prop} {o : Option Nat} {q : Nat} (h : IsMin P o) (hb : ∀ r, o = some r → q < r) : IsMin (fun r => P r ∨ r = q) (some q) := by
  refine ⟨.inr rfl, fun r hr => ?_⟩
  rcases hr with z | z
  · cases o with
    | none => exact absurd z (h r)
    | some m =>
      have := h.2 r z
      have := hb m rfl
      omega
  · omega
theorem IsMin.old {P : Nat → Prop} {q m : Nat} (h : IsMin P (some m)) (hb : m ≤ q) : IsMin (fun r => P r ∨ r = q) (some m) := by
  refine ⟨.inl h.1, fun r hr => ?_⟩
  rcases hr with z | z
  · exact h.2 r z
  · omega
theorem IsMin.same {P P' : Nat → Prop} {o : Option Nat} (h : IsMin P o) (n : ∀ r, ¬ P' r) : IsMin (fun r => P r ∨ P' r) o :=
  h.congr fun r => ⟨.inl, fun z => z.resolve_right (n r)⟩
theorem cond_snocA {ps : List (Nat × Nat)} {A B : List (Nat × Option Nat)} {e : Nat × Option Nat} {r : Nat} : Cond ps (A ++ [e]) B r ↔ Cond ps A B r ∨ Cond ps [e] B r := by
  constructor
  · rintro ⟨x, bx, y, bd, h1, h2⟩
    rcases List.mem_append.mp h1 with z | z
    · exact .inl ⟨x, bx, y, bd, z, h2⟩
    · exact .inr ⟨x, bx, y, bd, z, h2⟩
  · rintro (⟨x, bx, y, bd, h1, h2⟩ | ⟨x, bx, y, bd, h1, h2⟩)
    · exact ⟨x, bx, y, bd, List.mem_append.mpr (.inl h1), h2⟩
    · exact ⟨x, bx, y, bd, List.mem_append.mpr (.inr h1), h2⟩
theorem cond_snocB {ps : List (Nat × Nat)} {A B : List (Nat × Option Nat)} {e : Nat × Option Nat} {r : Nat} : Cond ps A (B ++ [e]) r ↔ Cond ps A B r ∨ Cond ps A [e] r := by
  constructor
  · rintro ⟨x, bx, y, bd, h1, h2, h3⟩
    rcases List.mem_append.mp h2 with z | z
    · exact .inl ⟨x, bx, y, bd, h1, z, h3⟩
    · exact .inr ⟨x, bx, y, bd, h1, z, h3⟩
  · rintro (⟨x, bx, y, bd, h1, h2, h3⟩ | ⟨x, bx, y, bd, h1, h2, h3⟩)
    · exact ⟨x, bx, y, bd, h1, List.mem_append.mpr (.inl h2), h3⟩
    · exact ⟨x, bx, y, bd, h1, List.mem_append.mpr (.inr h2), h3⟩
theorem cond_nilA {ps : List (Nat × Nat)} {B : List (Nat × Option Nat)} {r : Nat} : ¬ Cond ps [] B r := by
  rintro ⟨x, bx, y, bd, h1, _⟩; simp at h1
theorem cond_nilB {ps : List (Nat × Nat)} {A : List (Nat × Option Nat)} {r : Nat} : ¬ Cond ps A [] r := by
  rintro ⟨x, bx, y, bd, _, h1, _⟩; simp at h1
/-- one pair of places -/
theorem cond_one {ps : List (Nat × Nat)} {e f : Nat × Option Nat} {r : Nat} : Cond ps [e] [f] r ↔ ps[r]? = some (e.1, f.1) ∧ (∀ q, e.2 = some q → r < q) ∧ ∀ q, f.2 = some q → r ≤ q := by
  constructor
  · rintro ⟨x, bx, y, bd, h1, h2, h3⟩
    rw [List.mem_singleton] at h1 h2
    subst h1; subst h2
    exact h3
  · intro h
    exact ⟨e.1, e.2, f.1, f.2, by simp, by simp, h⟩
/-- x_bound is None or rank < x_bound -/
theorem t_lt {i j : Nat} {σ : St} {H : Hp} {Q : Bool → Hp → Prop} {q : Nat} {o : Option Nat} (hi : σ[i]? = some (some (iV q))) (hj : σ[j]? = some (some (bV o)))
    (h : ∀ c : Bool, (c = true ↔ ∀ m, o = some m → q < m) → Q c H) :
    tOr (tTest (tOp (fun x y H Q => y = .non ∧ Q (.bl (decide (x = .non))) H) (tVar j) (tC .non))) (tTest (tOp (rI0 fun i j => .bl (decide (i < j))) (tVar i) (tVar j))) σ H Q := by
  cases o with
  | none =>
    refine ⟨_, hj, rfl, true, rfl, iteT (h true ⟨fun _ m z => (nomatch z), fun _ => rfl⟩)⟩
  | some m =>
    refine ⟨_, hj, rfl, false, rfl, iteF ⟨_, hi, _, hj, _, _, rfl, rfl, _, rfl, ?_⟩⟩
    refine h _ ⟨fun c m' z => ?_, fun c => ?_⟩
    · have := of_decide_eq_true c
      cases z; omega
    · have := c m rfl
      exact decide_eq_true (by omega)
theorem t_le {i j : Nat} {σ : St} {H : Hp} {Q : Bool → Hp → Prop} {q : Nat} {o : Option Nat} (hi : σ[i]? = some (some (iV q))) (hj : σ[j]? = some (some (bV o)))
    (h : ∀ c : Bool, (c = true ↔ ∀ m, o = some m → q ≤ m) → Q c H) :
    tOr (tTest (tOp (fun x y H Q => y = .non ∧ Q (.bl (decide (x = .non))) H) (tVar j) (tC .non))) (tTest (tOp (rI0 fun i j => .bl (decide (i ≤ j))) (tVar i) (tVar j))) σ H Q := by
  cases o with
  | none =>
    refine ⟨_, hj, rfl, true, rfl, iteT (h true ⟨fun _ m z => (nomatch z), fun _ => rfl⟩)⟩
  | some m =>
    refine ⟨_, hj, rfl, false, rfl, iteF ⟨_, hi, _, hj, _, _, rfl, rfl, _, rfl, ?_⟩⟩
    refine h _ ⟨fun c m' z => ?_, fun c => ?_⟩
    · have := of_decide_eq_true c
      cases z; omega
    · have := c m rfl
      exact decide_eq_true (by omega)
/-- the crossing of l and m, by the spines -/
def IsCr (b : Nat) (ps : List (Nat × Nat)) (l m : Nat) (o : Option Nat) : Prop := ∃ LA LB, Spn Prod.snd b ps l LA ∧ Spn Prod.fst b ps m LB ∧ IsMin (Cond ps ((l, none) :: LA) ((m, none) :: LB)) o
section
variable {P : Program} {w : World} {K : PySem.W.Frag} {mg : Str → Option Value} {base : Heap} {C : Addr}
/-! ### crossing -/
def spCross (C : Addr) : L2.Sp := fun vs H Q _ => ∃ (J : Addr) (al : List Nat) (ps : List (Nat × Nat)) (T : List (List Nat)) (l m : Nat), vs = [.ref J, iV l, iV m] ∧ JAt C H J al ps T ∧ PL al.length ps T ∧ l < T.length ∧ m < T.length ∧ T.length ≤ 900 ∧
  ∀ (H' : Hp) (o : Option Nat), Same H H' → IsCr al.length ps l m o → Q (bV o) H'
theorem scCross : FnScope ["joins", "left", "right", "best", "ahead", "behind", "x", "x_bound", "y", "y_bound", "rank"] ["joins", "left", "right"] (defScope sCross) := ⟨rfl, rfl, rfl, by decide +kernel, rfl, by decide +kernel, by decide +kernel⟩
theorem ok_cross {f g c : Addr} {fd gd cd : FuncData} (F : Fun K "crossing" "crossing" sCross f fd) (T : Txt K mg C) (CR : Cal K mg "right_spine" sRight g gd ["joins", "piece"]) (GR : FnOk P w K mg base CX0 5 g gd ["joins", "piece"] (spSpine Prod.snd C))
    (CL : Cal K mg "left_spine" sLeft c cd ["joins", "piece"]) (GL : FnOk P w K mg base CX0 5 c cd ["joins", "piece"] (spSpine Prod.fst C)) : FnOk P w K mg base CX0 6 f fd ["joins", "left", "right"] (spCross C) := by
  refine F.ok scCross (fun vs H Q E h => ?_) (fun cdv A outer s H vs Q E hr h => ?_)
  · obtain ⟨J, al, ps, TT, l, m, rfl, _⟩ := h
    rfl
  · obtain ⟨J, al, ps, TT, l, m, rfl, hJ, hPL, hl, hm, hT, k⟩ := h
    have hu := hu_of hr
    have nd : ND ps := fun q r p e1 e2 => hPL.nodup e1 e2
    refine ⟨_, pss_cons (ps_set (i := 3) scCross.nd rfl (Or.inl rfl) pe_non)
      (pss_cons (ps_set (i := 4) scCross.nd rfl (Or.inl rfl) (pe_call GR hr (by rfl) CR.g CR.F.kp CR.b .nil pass0 (pa_cons (pv 0) (pa_cons (pv 1) pa_nil))))
      (pss_cons (ps_set (i := 5) scCross.nd rfl (Or.inl rfl) (pe_call GL hr (by rfl) CL.g CL.F.kp CL.b .nil pass0 (pa_cons (pv 0) (pa_cons (pv 2) pa_nil))))
      (pss_cons (ps_for PassesOwn.never rfl (pi_tup (pv 4)) (pg_tup rfl (pgs_cons (pg_name (i := 6) scCross.nd rfl (Or.inl rfl)) (pgs_cons (pg_name (i := 7) scCross.nd rfl (Or.inl rfl)) pgs_nil)))
        (pss_one (ps_for PassesOwn.never rfl (pi_tup (pv 5)) (pg_tup rfl (pgs_cons (pg_name (i := 8) scCross.nd rfl (Or.inl rfl)) (pgs_cons (pg_name (i := 9) scCross.nd rfl (Or.inl rfl)) pgs_nil)))
          (pss_cons (ps_set (i := 10) scCross.nd rfl (Or.inl rfl) (pe_dget1 hu (pe_fld (pv 0) rfl) (pe_tup (pa_cons (pv 6) (pa_cons (pv 8) pa_nil))) ⟨rfl, rfl, rfl, rfl⟩))
          (pss_one (ps_if (PW.pt (pw_and (pt_cmpR op_notN (pv 10) pe_non (nomark _)) (pw_and (PW.pt (pw_or (pt_cmpR op_isN (pv 7) pe_non (nomark _)) (pw_or1 (pt_cmpR op_lt (pv 10) (pv 7) (nomark _)))))
                (pw_and1 (PW.pt (pw_or (pt_cmpR op_isN (pv 9) pe_non (nomark _)) (pw_or1 (pt_cmpR op_le (pv 10) (pv 9) (nomark _)))))))))
            (pss_one (ps_if (PW.pt (pw_or (pt_cmpR op_isN (pv 3) pe_non (nomark _)) (pw_or1 (pt_cmpR op_lt (pv 10) (pv 3) (nomark _))))) (pss_one (ps_set (i := 3) scCross.nd rfl (Or.inl rfl) (pv 10))) pss_nil)) pss_nil))))))
      (pss_one (ps_ret (pv 3)))))), ?_⟩
    refine ⟨_, rfl, _, rfl, J, al, ps, TT, l, rfl, hJ, hPL, hl, hT, fun H1 pa asA LA s1 spA atA hA => ?_⟩
    refine ⟨_, rfl, _, rfl, J, al, ps, TT, m, rfl, hJ.same s1, hPL, hm, hT, fun H2 pb asB LB s2 spB atB hB => ?_⟩
    have s02 := s1.trans s2
    have atA2 := atA.same s2
    have hA2 := s2 _ _ hA
    generalize eA : ((l, none) :: LA : List (Nat × Option Nat)) = RA at atA2
    generalize eB : ((m, none) :: LB : List (Nat × Option Nat)) = RB at atB
    have fin : ∀ o, IsMin (Cond ps RA RB) o → IsCr al.length ps l m o := fun o h => ⟨LA, LB, spA, spB, by rw [eA, eB]; exact h⟩
    have lA := atA2.len
    have lB := atB.len
    have lA' : (refs asA).length = RA.length := by unfold refs; rw [List.length_map]; exact lA
    have lB' : (refs asB).length = RB.length := by unfold refs; rw [List.length_map]; exact lB
    refine ⟨_, rfl, pa, rfl, ⟨_, SqT.of hA2⟩, for_tup (K := K) (a := pa) (xs := refs asA) (fun i σ H' => ∃ (o : Option Nat) (v6 v7 v8 v9 v10 : Option V), σ = [some (.ref J), some (iV l), some (iV m), some (bV o), some (.ref pa), some (.ref pb), v6, v7, v8, v9, v10] ∧ Same H2 H' ∧ IsMin (Cond ps (RA.take i) RB) o)
      ⟨none, _, _, _, _, _, rfl, Same.refl _, fun r => cond_nilA⟩ (fun i σ H' _ ⟨_, _, _, _, _, _, _, s, _⟩ => SqT.of (s _ _ hA2)) ?_ ?_⟩
    · rintro i x σ H' hx ⟨o, v6, v7, v8, v9, v10, rfl, s, hmin⟩
      obtain ⟨a, ha, rfl⟩ := refs_inv hx
      have hi : i < RA.length := by rw [← lA]; exact (List.getElem?_eq_some_iff.mp ha).1
      have ee : RA[i]? = some RA[i] := List.getElem?_eq_getElem hi
      have hta := s _ _ (atA2.at_ i a _ ha ee)
      refine ⟨a, _, rfl, SqT.of hta, rfl, _, _, rfl, _, _, rfl, rfl, ?_⟩
      refine ⟨_, rfl, pb, rfl, ⟨_, SqT.of (s _ _ hB)⟩, for_tup (K := K) (a := pb) (xs := refs asB) (fun j σ H'' => ∃ (o : Option Nat) (v8 v9 v10 : Option V), σ = [some (.ref J), some (iV l), some (iV m), some (bV o), some (.ref pa), some (.ref pb), some (iV RA[i].1), some (bV RA[i].2), v8, v9, v10] ∧ Same H2 H'' ∧ IsMin (fun r => Cond ps (RA.take i) RB r ∨ Cond ps [RA[i]] (RB.take j) r) o)
        ⟨o, _, _, _, rfl, s, hmin.same fun r => cond_nilB⟩ (fun j σ H'' _ ⟨_, _, _, _, _, s', _⟩ => SqT.of (s' _ _ hB)) ?_ ?_⟩
      · rintro j x σ H'' hx ⟨o, v8, v9, v10, rfl, s', hmin⟩
        obtain ⟨c, hc, rfl⟩ := refs_inv hx
        have hj : j < RB.length := by rw [← lB]; exact (List.getElem?_eq_some_iff.mp hc).1
        have ff : RB[j]? = some RB[j] := List.getElem?_eq_getElem hj
        have htc := s' _ _ (atB.at_ j c _ hc ff)
        refine ⟨c, _, rfl, SqT.of htc, rfl, _, _, rfl, _, _, rfl, rfl, ?_⟩
        obtain ⟨dx, pa0, tl, rd, nd0, as, kvs, lg, jj⟩ := hJ.same (s02.trans s')
        -- rank = joins.ranks.get((x, y))
        refine ⟨_, rfl, J, C, dx, _, _, rfl, jj.ob, T.cl, T.nR, jF_ranks .., rd, rfl, .inr ⟨_, .inl jj.rd⟩, _, rfl, _, rfl, (by show 2 ≤ sizeLine; decide), fun t ht => ?_⟩
        have s3 : Same H2 (upd H'' t (.tup [iV RA[i].1, iV RB[j].1])) := Same_nn s' ht
        have rd3 : (upd H'' t (.tup [iV RA[i].1, iV RB[j].1])) rd = some (.dT (rk ps)) := Same_new ht _ _ jj.rd
        have t3 : (upd H'' t (.tup [iV RA[i].1, iV RB[j].1])) t = some (.tup ((kOf (RA[i].1, RB[j].1)).map kV)) := upd_same
        have go : ∀ o', IsMin (fun r => (Cond ps (RA.take i) RB r ∨ Cond ps [RA[i]] (RB.take j) r) ∨ Cond ps [RA[i]] [RB[j]] r) o' → IsMin (fun r => Cond ps (RA.take i) RB r ∨ Cond ps [RA[i]] (RB.take (j + 1)) r) o' := fun o' h =>
          h.congr fun r => by rw [take_succ ff, cond_snocB, or_assoc]
        rcases rk_cases nd (RA[i].1, RB[j].1) with ⟨hn, hv⟩ | ⟨q, hq, hv⟩
        · refine ⟨none, (by rw [← hv]; exact DGet.t rd3 t3), ?_⟩
          refine ⟨_, rfl, rfl, false, rfl, iteF (iteF ?_)⟩
          refine ⟨o, _, _, _, rfl, s3, go o (hmin.same fun r z => ?_)⟩
          exact hn (List.mem_of_getElem? (cond_one.mp z).1)
        · refine ⟨some (iV q), (by rw [← hv]; exact DGet.t rd3 t3), ?_⟩
          refine ⟨_, rfl, rfl, true, rfl, iteT ?_⟩
          have uq : ∀ r, Cond ps [RA[i]] [RB[j]] r → r = q := fun r z => nd r q _ (cond_one.mp z).1 hq
          refine t_lt (q := q) (o := RA[i].2) rfl rfl fun c1 h1 => ?_
          by_cases d1 : c1 = true
          · rw [d1]
            refine iteT (t_le (q := q) (o := RB[j].2) rfl rfl fun c2 h2 => ?_)
            by_cases d2 : c2 = true
            · rw [d2]
              refine iteT ?_
              have cq : ∀ r, Cond ps [RA[i]] [RB[j]] r ↔ r = q := fun r => ⟨uq r, fun z => by subst z; exact cond_one.mpr ⟨hq, h1.mp d1, h2.mp d2⟩⟩
              refine t_lt (q := q) (o := o) rfl rfl fun c3 h3 => ?_
              by_cases d3 : c3 = true
              · rw [d3]
                refine iteT ⟨_, rfl, ?_⟩
                exact ⟨some q, _, _, _, rfl, s3, go _ ((hmin.new fun r z => h3.mp d3 r z).congr fun r => by rw [cq])⟩
              · have d3' : c3 = false := by simpa using d3
                rw [d3']
                refine iteF ?_
                cases o with
                | none => exact absurd (h3.mpr fun m z => nomatch z) d3
                | some mm =>
                  refine ⟨some mm, _, _, _, rfl, s3, go _ ((hmin.old ?_).congr fun r => by rw [cq])⟩
                  have : ¬ q < mm := fun z => d3 (h3.mpr fun m' e => by cases e; exact z)
                  omega
            · have d2' : c2 = false := by simpa using d2
              rw [d2']
              refine iteF ⟨o, _, _, _, rfl, s3, go o (hmin.same fun r z => ?_)⟩
              have e := uq r z
              subst e
              exact d2 (h2.mpr (cond_one.mp z).2.2)
          · have d1' : c1 = false := by simpa using d1
            rw [d1']
            refine iteF (iteF ⟨o, _, _, _, rfl, s3, go o (hmin.same fun r z => ?_)⟩)
            have e := uq r z
            subst e
            exact d1 (h1.mpr (cond_one.mp z).2.1)
      · rintro σ H'' ⟨o, v8, v9, v10, rfl, s', hmin⟩
        rw [lB', List.take_length] at hmin
        exact ⟨o, _, _, _, _, _, rfl, s', hmin.congr fun r => by rw [take_succ ee, cond_snocA]⟩
    · rintro σ H' ⟨o, v6, v7, v8, v9, v10, rfl, s, hmin⟩
      rw [lA', List.take_length] at hmin
      exact ⟨_, rfl, k _ o (s02.trans s) (fin o hmin)⟩
/-! ### side_by_side -/
def spSide (C : Addr) : L2.Sp := fun vs H Q _ => ∃ (J : Addr) (al : List Nat) (ps : List (Nat × Nat)) (T : List (List Nat)) (l m : Nat), vs = [.ref J, iV l, iV m] ∧ JAt C H J al ps T ∧ PL al.length ps T ∧ l < T.length ∧ m < T.length ∧ T.length ≤ 900 ∧
  ∀ (H' : Hp) (o : Option Nat), Same H H' → IsCr al.length ps l m o → Q (.bl (decide (o = none))) H'
theorem scSide : FnScope ["joins", "left", "right"] ["joins", "left", "right"] (defScope sSide) := ⟨rfl, rfl, rfl, by decide +kernel, rfl, by decide +kernel, by decide +kernel⟩
theorem ok_side {f g : Addr} {fd gd : FuncData} (F : Fun K "side_by_side" "side_by_side" sSide f fd) (CG : Cal K mg "crossing" sCross g gd ["joins", "left", "right"]) (G : FnOk P w K mg base CX0 6 g gd ["joins", "left", "right"] (spCross C)) : FnOk P w K mg base CX0 7 f fd ["joins", "left", "right"] (spSide C) := by
  refine F.ok scSide (fun vs H Q E h => ?_) (fun cdv A outer s H vs Q E hr h => ?_)
  · obtain ⟨J, al, ps, TT, l, m, rfl, _⟩ := h
    rfl
  · obtain ⟨J, al, ps, TT, l, m, rfl, hJ, hPL, hl, hm, hT, k⟩ := h
    refine ⟨_, pss_one (ps_ret (pe_cmpR op_isN (pe_call G hr (by rfl) CG.g CG.F.kp CG.b .nil pass0 (pa_cons (pv 0) (pa_cons (pv 1) (pa_cons (pv 2) pa_nil)))) pe_non (nomark _))), ?_⟩
    refine ⟨_, rfl, _, rfl, _, rfl, J, al, ps, TT, l, m, rfl, hJ, hPL, hl, hm, hT, fun H1 o s1 ho => ⟨rfl, ?_⟩⟩
    have e : decide (bV o = V.non) = decide (o = none) := by
      cases o with
      | none => rfl
      | some q => rfl
    rw [e]
    exact k _ o s1 ho
/-! ### letters_of -/
def spLetters (C : Addr) : L2.Sp := fun vs H Q _ => ∃ (J : Addr) (al : List Nat) (ps : List (Nat × Nat)) (T : List (List Nat)) (xs : List Nat), vs = [.ref J, .str (sOf al xs)] ∧ JAt C H J al ps T ∧ (∀ x ∈ xs, x < al.length) ∧ xs.length ≤ 900 ∧
  ∀ (H' : Hp) (q : Addr), Same H H' → H' q = some (.tup (rowV xs)) → Q (.ref q) H'
theorem scLetters : FnScope ["joins", "text", "row", "at", "sign"] ["joins", "text"] (defScope sLetters) := ⟨rfl, rfl, rfl, by decide +kernel, rfl, by decide +kernel, by decide +kernel⟩
theorem ok_letters {f g : Addr} {fd gd : FuncData} (F : Fun K "letters_of" "letters_of" sLetters f fd) (T : Txt K mg C) (B : Bn mg) (M : Met K C "piece_of" "Joins.piece_of" sPieceOf g gd ["self", "text"]) (G : FnOk P w K mg base CX0 1 g gd ["self", "text"] (spPieceOf C)) :
    FnOk P w K mg base CX0 2 f fd ["joins", "text"] (spLetters C) := by
  refine F.ok scLetters (fun vs H Q E h => ?_) (fun cdv A outer s H vs Q E hr h => ?_)
  · obtain ⟨J, al, ps, TT, xs, rfl, _⟩ := h
    rfl
  · obtain ⟨J, al, ps, TT, xs, rfl, hJ, hlt, hlen, k⟩ := h
    refine ⟨_, pss_cons (ps_set (i := 2) scLetters.nd rfl (Or.inl rfl) (pe_lst pa_nil))
      (pss_cons (ps_for PassesOwn.never rfl (pi_enumS (by rfl) B.enumerate (pa_cons (pv 1) pa_nil)) (pg_tup rfl (pgs_cons (pg_name (i := 3) scLetters.nd rfl (Or.inl rfl)) (pgs_cons (pg_name (i := 4) scLetters.nd rfl (Or.inl rfl)) pgs_nil)))
        (pss_cons (ps_if (pt_cmpR op_notIn_sign (pv 4) (pe_fld (pv 0) rfl) rfl) (pss_one ps_never) pss_nil)
        (pss_one (ps_expr (pe_bm PySem.F.plainAttrs_list PySem.F.slot_list_append PySem.F.type_list_append mt_append (pv 2) (pa_cons (pe_meth (pv 0) T.cl M.m G hr M.b .nil pass0 (pa_cons (pv 4) pa_nil)) pa_nil))))))
      (pss_one (ps_ret (pe_callTy call_tuple_of (by rfl) B.tuple b_tuple (pa_cons (pv 2) pa_nil))))), ?_⟩
    refine ⟨Nat.zero_le _, fun D hD => ?_⟩
    refine ⟨_, rfl, _, rfl, for_it walk_enumS (fun i σ H' => ∃ v3 v4 : Option V, σ = [some (.ref J), some (.str (sOf al xs)), some (.ref D), v3, v4] ∧ Same H H' ∧ H' D = some (.lst (rowV (xs.take i)))) ⟨none, none, rfl, Same_new hD, upd_same⟩ (fun _ _ _ _ _ => True.intro) ?_ ?_⟩
    · rintro i x σ H1 H2 hi ⟨v3, v4, rfl, sm, hL⟩ ⟨t, c, rfl, ht, hc, rfl⟩
      rw [sOf_size] at hi
      have ex : xs[i]? = some xs[i] := List.getElem?_eq_getElem hi
      have hxi := hlt xs[i] (List.getElem_mem hi)
      rw [sOf_get ex] at hc
      have hc : al.getD xs[i] 0 = c := Option.some.inj hc
      have hca : al[xs[i]]? = some c := by
        rw [← hc, List.getD_eq_getElem?_getD]
        simp [hxi]
      have sm2 := Same_nn (o := .tup [V.int (i : Nat), V.str ⟨#[c]⟩]) sm ht
      have nDt : D ≠ t := ne_of_none hL ht
      have hL2 : (upd H1 t (.tup [V.int (i : Nat), V.str ⟨#[c]⟩])) D = some (.lst (rowV (xs.take i))) := by rw [upd_ne nDt]; exact hL
      obtain ⟨dx, pa0, tl, rd, nd0, as, kvs, lg, j⟩ := hJ.same sm2
      refine ⟨t, _, rfl, SqT.of upd_same, rfl, _, _, rfl, _, _, rfl, rfl, ?_⟩
      have hmem : c ∈ (sAl al).cps.toList := List.mem_of_getElem? hca
      refine ⟨_, rfl, _, rfl, J, C, dx, _, _, rfl, j.ob, T.cl, T.nA, jF_alphabet .., c, _, rfl, rfl, false, nblF hmem, iteF ?_⟩
      refine ⟨_, rfl, .inl ⟨rfl, _, SqL.of hL2⟩, _, rfl, J, dx, _, rfl, j.ob, jF_no _ _ _ _ _ _ (by decide +kernel) (by decide +kernel) (by decide +kernel) (by decide +kernel) (by decide +kernel) (by decide +kernel), _, rfl, ?_⟩
      refine ⟨J, al, ps, TT, xs[i], c, rfl, hJ.same sm2, hca, ?_⟩
      refine ⟨D, _, _, rfl, rfl, hL2, (by rw [rowV_len]; exact small_lt (by rw [List.length_take]; omega)), _, _, rfl, Same_put sm2 hD, ?_⟩
      rw [upd_same, rowV_snoc, take_succ ex]
    · rintro σ H1 ⟨v3, v4, rfl, sm, hL⟩
      rw [sOf_size, List.take_length] at hL
      refine ⟨_, rfl, D, _, rfl, .inl ⟨SqL.of hL, fun q hq => ?_⟩⟩
      exact k _ q (Same_nn sm hq) upd_same
/-! ### cut -/
def spCut (C : Addr) : L2.Sp := fun vs H Q _ => ∃ (J : Addr) (al : List Nat) (ps : List (Nat × Nat)) (T : List (List Nat)) (xs : List Nat), vs = [.ref J, .str (sOf al xs)] ∧ JAt C H J al ps T ∧ PL al.length ps T ∧ al.length ≤ 900 ∧ (∀ x ∈ xs, x < al.length) ∧ xs.length ≤ 900 ∧
  ∀ (H' : Hp) (q : Addr), Same H H' → H' q = some (.tup (rowV (st al.length ps xs))) → Q (.ref q) H'
theorem scCut : FnScope ["joins", "text"] ["joins", "text"] (defScope sCut) := ⟨rfl, rfl, rfl, by decide +kernel, rfl, by decide +kernel, by decide +kernel⟩
theorem ok_cut {f g c : Addr} {fd gd cd : FuncData} (F : Fun K "cut" "cut" sCut f fd) (T : Txt K mg C) (B : Bn mg) (CL : Cal K mg "letters_of" sLetters g gd ["joins", "text"]) (GL : FnOk P w K mg base CX0 2 g gd ["joins", "text"] (spLetters C))
    (CC : Cal K mg "cut_row" sCutRow c cd ["ranks", "letters", "row"]) (GC : FnOk P w K mg base CX0 2 c cd ["ranks", "letters", "row"] spCutRow) : FnOk P w K mg base CX0 3 f fd ["joins", "text"] (spCut C) := by
  refine F.ok scCut (fun vs H Q E h => ?_) (fun cdv A outer s H vs Q E hr h => ?_)
  · obtain ⟨J, al, ps, TT, xs, rfl, _⟩ := h
    rfl
  · obtain ⟨J, al, ps, TT, xs, rfl, hJ, hPL, hal, hlt, hlen, k⟩ := h
    obtain ⟨dx, pa0, tl, rd, nd0, as, kvs, lg, j⟩ := id hJ
    refine ⟨_, pss_one (ps_ret (pe_call GC hr (by rfl) CC.g CC.F.kp CC.b .nil pass0 (pa_cons (pe_fld (pv 0) rfl) (pa_cons (pe_callB call_len_str (by rfl) B.len b_len (pa_cons (pe_fld (pv 0) rfl) pa_nil)) (pa_cons (pe_call GL hr (by rfl) CL.g CL.F.kp CL.b .nil pass0 (pa_cons (pv 0) (pa_cons (pv 1) pa_nil))) pa_nil))))), ?_⟩
    refine ⟨_, rfl, J, C, dx, _, _, rfl, j.ob, T.cl, T.nR, jF_ranks .., _, rfl, J, C, dx, _, _, rfl, j.ob, T.cl, T.nA, jF_alphabet .., _, rfl, (by show al.length ≤ sizeLine; exact small_line (by omega)), _, rfl, _, rfl, ?_⟩
    refine ⟨J, al, ps, TT, xs, rfl, hJ, hlt, hlen, fun H1 q s1 hq => ?_⟩
    refine ⟨rd, q, al.length, ps, xs, rfl, s1 _ _ j.rd, fun q r p e1 e2 => hPL.nodup e1 e2, hPL.low, hq, by omega, fun H2 q2 s2 hq2 => ?_⟩
    exact k _ q2 (s1.trans s2) hq2
end
end RJ

set_option Elab.async false
set_option maxRecDepth 100000
set_option maxHeartbeats 4000000
namespace RJ
open PySem L2
theorem pe_bmK {X : Cx} {K : PySem.W.Frag} {T : String} {name : Str} {o e : Expr} {es : List Expr} {pos apos : Pos} {to : TE} {t : TA} {r : V → List V → Hp → VK → Prop} (hK : X.K = K) (h : PE X (.Call (.Attribute o name apos) (e :: es) [] pos) (tBM X.K T r to t)) :
    PE X (.Call (.Attribute o name apos) (e :: es) [] pos) (tBM K T r to t) := by
  subst hK; exact h
/-- the place of a letter -/
theorem occ_at {al : List Nat} (h : Alph al) {j c : Nat} (e : al[j]? = some c) : ∃ rest, Builtin.Str.occurrences (sAl al) ⟨#[c]⟩ 0 (sAl al).length 1 = j :: rest := by
  have f := StrLaws.found_one (sAl al) c
  have hm : c ∈ (sAl al).cps.toList := List.mem_of_getElem? e
  rw [decide_eq_true hm] at f
  cases q : Builtin.Str.occurrences (sAl al) ⟨#[c]⟩ 0 (sAl al).length 1 with
  | nil => rw [q] at f; cases f
  | cons i rest =>
    have hi : i ∈ Builtin.Str.occurrences (sAl al) ⟨#[c]⟩ 0 (sAl al).length 1 := by rw [q]; simp
    have sp := (StrLaws.subAt_one (sAl al) c i).mp (StrLaws.occ_spec _ _ _ _ _ i hi)
    have : i = j := h.inj sp e
    subst this
    exact ⟨rest, rfl⟩
theorem S_len (b : Nat) (ps : List (Nat × Nat)) (row : List Nat) : ∀ r, r ≤ ps.length → (S b ps r row).length ≤ row.length
  | 0, _ => Nat.le_refl _
  | r + 1, h => by
    rw [S_succ (List.getElem?_eq_getElem (show r < ps.length by omega))]
    exact Nat.le_trans (pt_length _ _ _) (S_len b ps row r (by omega))
section
variable {P : Program} {w : World} {K : PySem.W.Frag} {mg : Str → Option Value} {base : Heap}
/-! ### _law_join_all -/
def spJoinAll : L2.Sp := fun vs H Q _ => ∃ (r p : Addr) (row : List Nat) (pr : Nat × Nat) (m : Nat), vs = [.ref r, .ref p, iV m] ∧ H r = some (.lst (rowV row)) ∧ H p = some (.tup (pV pr)) ∧ row.length ≤ 1000 ∧
  ∀ (H' : Hp) (q : Addr), Same H H' → H' q = some (.lst (rowV (pt pr m row))) → Q (.ref q) H'
theorem scJoinAll : FnScope ["_law_row", "_law_pair", "_law_made", "_law_joined", "_law_gone", "_law_k"] ["_law_row", "_law_pair", "_law_made"] (defScope sJoinAll) := ⟨rfl, rfl, rfl, by decide +kernel, rfl, by decide +kernel, by decide +kernel⟩
theorem ok_joinAll {f : Addr} {fd : FuncData} (F : Fun K "_law_join_all" "_law_join_all" sJoinAll f fd) (B : Bn mg) : FnOk P w K mg base CX0 1 f fd ["_law_row", "_law_pair", "_law_made"] spJoinAll := by
  refine F.ok scJoinAll (fun vs H Q E h => ?_) (fun cdv A outer s H vs Q E hr h => ?_)
  · obtain ⟨r, p, row, pr, m, rfl, _⟩ := h
    rfl
  · obtain ⟨r, p, row, pr, m, rfl, hrow, hp, hlen, k⟩ := h
    refine ⟨_, pss_cons (ps_set (i := 3) scJoinAll.nd rfl (Or.inl rfl) (pe_lst pa_nil)) (pss_cons (ps_set (i := 4) scJoinAll.nd rfl (Or.inl rfl) pe_bl)
      (pss_cons (ps_for PassesOwn.never rfl (pi_range1 (by rfl) B.range (pa_cons (pe_callB call_len_seq (by rfl) B.len b_len (pa_cons (pv 0) pa_nil)) pa_nil)) (pg_name (i := 5) scJoinAll.nd rfl (Or.inl rfl))
        (pss_one (ps_if (pt_val (pv 4)) (pss_one (ps_set (i := 4) scJoinAll.nd rfl (Or.inl rfl) pe_bl))
          (pss_one (ps_if (PW.pt (pw_and (pt_cmpR op_lt (pe_op op_add (pv 5) pe_int) (pe_callB call_len_seq (by rfl) B.len b_len (pa_cons (pv 0) pa_nil)) (nomark _))
              (pw_and1 (pt_cmpR (op_eqD hr.units) (pe_tup (pa_cons (pe_ix ix_list (pv 0) (pv 5) (fun _ _ => rfl)) (pa_cons (pe_ix ix_list (pv 0) (pe_op op_add (pv 5) pe_int) (fun _ _ => rfl)) pa_nil))) (pv 1) (nomark _)))))
            (pss_cons (ps_expr (pe_bm PySem.F.plainAttrs_list PySem.F.slot_list_append PySem.F.type_list_append mt_append (pv 3) (pa_cons (pv 2) pa_nil))) (pss_one (ps_set (i := 4) scJoinAll.nd rfl (Or.inl rfl) pe_bl)))
            (pss_one (ps_expr (pe_bm PySem.F.plainAttrs_list PySem.F.slot_list_append PySem.F.type_list_append mt_append (pv 3) (pa_cons (pe_ix ix_list (pv 0) (pv 5) (fun _ _ => rfl)) pa_nil)))))))))
      (pss_one (ps_ret (pv 3))))), ?_⟩
    refine ⟨Nat.zero_le _, fun l hl => ?_⟩
    have hrow1 := Same_new (o := .lst []) hl _ _ hrow
    refine ⟨_, rfl, _, _, rfl, .inl (SqL.of hrow1), _, rfl, (by rw [rowV_len]; omega), (by rw [rowV_len]; omega), for_range (lo := 0) (n := (((rowV row).length : Nat) : Int).toNat)
      (fun i σ H' => ∃ (gone : Bool) (acc : List Nat) (v5 : Option V), σ = [some (.ref r), some (.ref p), some (iV m), some (.ref l), some (.bl gone), v5] ∧ Same H H' ∧ H' l = some (.lst (rowV acc)) ∧ acc.length ≤ i ∧
        (gone = false → acc ++ pt pr m (row.drop i) = pt pr m row) ∧ (gone = true → acc ++ pt pr m (row.drop (i + 1)) = pt pr m row))
      ⟨false, [], none, rfl, Same_new hl, upd_same, Nat.le_refl _, fun _ => rfl, fun z => nomatch z⟩ ?_ ?_⟩
    · rintro i σ H' hi ⟨gone, acc, v5, rfl, sm, hL, hacc, hf, ht⟩
      rw [rowV_len] at hi
      have hi : i < row.length := by omega
      have ex : row[i]? = some row[i] := List.getElem?_eq_getElem hi
      have hd := drop_get ex
      have hrow' := sm _ _ hrow
      refine ⟨_, rfl, gone, rfl, ?_⟩
      cases gone with
      | true =>
        refine iteT ?_
        exact ⟨false, acc, _, rfl, sm, hL, by omega, fun _ => ht rfl, fun z => nomatch z⟩
      | false =>
        refine iteF ?_
        have hpt := hf rfl
        refine ⟨_, rfl, _, _, rfl, rfl, _, rfl, _, _, rfl, .inl (SqL.of hrow'), _, _, rfl, rfl, _, rfl, ?_⟩
        refine ite2 (fun c2 => ?_) (fun c2 => ?_)
        · have c2 := of_decide_eq_true c2
          have c2 : i + 1 < row.length := by rw [rowV_len] at c2; omega
          have ey : row[i + 1]? = some row[i + 1] := List.getElem?_eq_getElem c2
          have hd2 := drop_get ey
          refine ⟨_, rfl, _, rfl, r, _, _, _, rfl, rfl, SqL.of hrow', atN (j := i) (by omega) (rowV_get ex), _, rfl, _, rfl, _, _, rfl, rfl, r, _, _, _, rfl, rfl, SqL.of hrow', atN (j := i + 1) (by omega) (rowV_get ey), (by show 2 ≤ sizeLine; decide), fun t ht => ?_⟩
          have sm2 : Same H (upd H' t (.tup [iV row[i], iV row[i + 1]])) := Same_nn sm ht
          have nlt : l ≠ t := ne_of_none hL ht
          refine ⟨_, rfl, eq_tt (l := [row[i], row[i + 1]]) (m := [pr.1, pr.2]) upd_same (sm2 _ _ hp) ⟨_, rfl, ?_⟩⟩
          rw [dec_pair]
          refine ite2 (fun e => ?_) (fun e => ?_)
          · have e := of_decide_eq_true e
            refine ⟨_, rfl, .inl ⟨rfl, _, SqL.of (by rw [upd_ne nlt]; exact hL)⟩, _, rfl, l, _, _, rfl, rfl, (by rw [upd_ne nlt]; exact hL), (by rw [rowV_len]; exact small_lt (by omega)), ?_⟩
            refine ⟨true, acc ++ [m], _, rfl, Same_put sm2 hl, by rw [upd_same, rowV_snoc], by simp; omega, fun z => (nomatch z), fun _ => ?_⟩
            rw [hd, hd2, pt_yes e] at hpt
            rw [← hpt]; simp
          · have e := nd_of e
            refine ⟨_, rfl, .inl ⟨rfl, _, SqL.of (by rw [upd_ne nlt]; exact hL)⟩, _, rfl, _, rfl, r, _, _, _, rfl, rfl, SqL.of (sm2 _ _ hrow), atN (j := i) (by omega) (rowV_get ex), l, _, _, rfl, rfl, (by rw [upd_ne nlt]; exact hL), (by rw [rowV_len]; exact small_lt (by omega)), ?_⟩
            refine ⟨false, acc ++ [row[i]], _, rfl, Same_put sm2 hl, by rw [upd_same, rowV_snoc], by simp; omega, fun _ => ?_, fun z => nomatch z⟩
            rw [hd, hd2, pt_no e, ← hd2] at hpt
            rw [← hpt]; simp
        · have c2 := nd_of c2
          have c2 : i + 1 = row.length := by rw [rowV_len] at c2; omega
          refine iteF ?_
          refine ⟨_, rfl, .inl ⟨rfl, _, SqL.of hL⟩, _, rfl, _, rfl, r, _, _, _, rfl, rfl, SqL.of hrow', atN (j := i) (by omega) (rowV_get ex), l, _, _, rfl, rfl, hL, (by rw [rowV_len]; exact small_lt (by omega)), ?_⟩
          refine ⟨false, acc ++ [row[i]], _, rfl, Same_put sm hl, by rw [upd_same, rowV_snoc], by simp; omega, fun _ => ?_, fun z => nomatch z⟩
          have hz : row.drop (i + 1) = [] := by rw [c2]; exact List.drop_length
          rw [hd, hz, pt_one] at hpt
          rw [hz, pt_nil, ← hpt]; simp
    · rintro σ H' ⟨gone, acc, v5, rfl, sm, hL, hacc, hf, ht⟩
      rw [rowV_len] at hacc hf ht
      have e : acc = pt pr m row := by
        cases gone with
        | false =>
          have := hf rfl
          rw [List.drop_of_length_le (by omega), pt_nil, List.append_nil] at this
          exact this
        | true =>
          have := ht rfl
          rw [List.drop_of_length_le (by omega), pt_nil, List.append_nil] at this
          exact this
      subst e
      exact ⟨_, rfl, k _ l sm hL⟩
/-! ### _law_staged -/
def spStaged : L2.Sp := fun vs H Q _ => ∃ (lp r : Addr) (b : Nat) (as : List Addr) (ps : List (Nat × Nat)) (row : List Nat), vs = [iV b, .ref lp, .ref r] ∧ H lp = some (.lst (refs as)) ∧ Prs H as ps ∧ H r = some (.lst (rowV row)) ∧ row.length ≤ 1000 ∧ ps.length ≤ 1000 ∧
  ∀ (H' : Hp) (q : Addr), Same H H' → H' q = some (.lst (rowV (st b ps row))) → Q (.ref q) H'
theorem scStaged : FnScope ["_law_many", "_law_pairs", "_law_row", "_law_rank"] ["_law_many", "_law_pairs", "_law_row"] (defScope sStaged) := ⟨rfl, rfl, rfl, by decide +kernel, rfl, by decide +kernel, by decide +kernel⟩
theorem ok_staged {f g : Addr} {fd gd : FuncData} (F : Fun K "_law_staged" "_law_staged" sStaged f fd) (B : Bn mg) (CJ : Cal K mg "_law_join_all" sJoinAll g gd ["_law_row", "_law_pair", "_law_made"]) (G : FnOk P w K mg base CX0 1 g gd ["_law_row", "_law_pair", "_law_made"] spJoinAll) :
    FnOk P w K mg base CX0 2 f fd ["_law_many", "_law_pairs", "_law_row"] spStaged := by
  refine F.ok scStaged (fun vs H Q E h => ?_) (fun cdv A outer s H vs Q E hr h => ?_)
  · obtain ⟨lp, r, b, as, ps, row, rfl, _⟩ := h
    rfl
  · obtain ⟨lp, r, b, as, ps, row, rfl, hlp, hprs, hrow, hlen, hps, k⟩ := h
    have las := hprs.len
    have lrf : (refs as).length = ps.length := by unfold refs; rw [List.length_map]; exact las
    refine ⟨_, pss_cons (ps_for PassesOwn.never rfl (pi_range1 (by rfl) B.range (pa_cons (pe_callB call_len_seq (by rfl) B.len b_len (pa_cons (pv 1) pa_nil)) pa_nil)) (pg_name (i := 3) scStaged.nd rfl (Or.inl rfl))
        (pss_one (ps_set (i := 2) scStaged.nd rfl (Or.inl rfl) (pe_call G hr (by rfl) CJ.g CJ.F.kp CJ.b .nil pass0 (pa_cons (pv 2) (pa_cons (pe_ix ix_list (pv 1) (pv 3) (fun _ _ => rfl)) (pa_cons (pe_op op_add (pv 0) (pv 3)) pa_nil)))))))
      (pss_one (ps_ret (pv 2))), ?_⟩
    refine ⟨_, rfl, _, _, rfl, .inl (SqL.of hlp), _, rfl, (by rw [lrf]; omega), (by rw [lrf]; omega), for_range (lo := 0) (n := (((refs as).length : Nat) : Int).toNat)
      (fun i σ H' => ∃ (q : Addr) (v3 : Option V), σ = [some (iV b), some (.ref lp), some (.ref q), v3] ∧ Same H H' ∧ H' q = some (.lst (rowV (S b ps i row)))) ⟨r, none, rfl, Same.refl _, hrow⟩ ?_ ?_⟩
    · rintro i σ H' hi ⟨q, v3, rfl, sm, hq⟩
      rw [lrf] at hi
      have ep : ps[i]? = some ps[i] := List.getElem?_eq_getElem (by omega)
      obtain ⟨a, ha1, ha2⟩ := hprs.get ep
      have hl := S_len b ps row i (by omega)
      refine ⟨_, rfl, _, rfl, _, rfl, lp, _, _, _, rfl, rfl, SqL.of (sm _ _ hlp), atN (j := i) (by omega) (refs_get ha1), _, rfl, _, rfl, _, _, rfl, rfl, ?_⟩
      refine ⟨q, a, _, ps[i], b + i, (by unfold iV; simp), hq, sm _ _ ha2, by omega, fun H1 q1 s1 hq1 => ?_⟩
      exact ⟨q1, _, rfl, sm.trans s1, by rw [S_succ ep]; exact hq1⟩
    · rintro σ H' ⟨q, v3, rfl, sm, hq⟩
      have e : ((((refs as).length : Nat) : Int)).toNat = ps.length := by rw [lrf]; omega
      rw [e, S_all] at hq
      exact ⟨_, rfl, k _ q sm hq⟩
/-! ### _law_letters -/
def spLLetters : L2.Sp := fun vs H Q _ => ∃ (al xs : List Nat), vs = [.str (sAl al), .str (sOf al xs)] ∧ Alph al ∧ (∀ x ∈ xs, x < al.length) ∧ xs.length ≤ 900 ∧
  ∀ (H' : Hp) (q : Addr), Same H H' → H' q = some (.lst (rowV xs)) → Q (.ref q) H'
theorem scLLetters : FnScope ["_law_alphabet_here", "_law_text", "_law_sign"] ["_law_alphabet_here", "_law_text"] (defScope sLLetters) := ⟨rfl, rfl, rfl, by decide +kernel, rfl, by decide +kernel, by decide +kernel⟩
theorem ok_lletters {f : Addr} {fd : FuncData} (F : Fun K "_law_letters" "_law_letters" sLLetters f fd) : FnOk P w K mg base CX0 1 f fd ["_law_alphabet_here", "_law_text"] spLLetters := by
  refine F.ok scLLetters (fun vs H Q E h => ?_) (fun cdv A outer s H vs Q E hr h => ?_)
  · obtain ⟨al, xs, rfl, _⟩ := h
    rfl
  · obtain ⟨al, xs, rfl, hA, hlt, hlen, k⟩ := h
    refine ⟨_, pss_one (ps_ret (pe_lc (own := [("_law_sign", 2)]) (g := gName 2) (tt := tYes) rfl scLLetters.nd (pi_str (pv 1)) (blkOk_by (N := ["_law_alphabet_here", "_law_text", "_law_sign"]) (sc := defScope sLLetters) (by decide +kernel))
        (fun _ _ _ _ _ => pg_name (i := 2) scLLetters.nd rfl (Or.inl rfl)) (fun _ _ _ _ _ => pts_nil) (fun _ _ _ _ _ => pe_bmK (K := K) rfl (pe_bm PySem.F.plainAttrs_str PySem.F.slot_str_index PySem.F.type_str_index mt_sindex (pv 0) (pa_cons (pv 2) pa_nil))))), ?_⟩
    refine ⟨_, rfl, _, rfl, fun D hD => lc_it walk_str (fun i H' => Same H H' ∧ H' D = some (.lst (rowV (xs.take i)))) ⟨Same_new hD, upd_same⟩ (fun _ _ _ _ => True.intro) ?_ ?_⟩
    · rintro i x H1 H2 hi ⟨sm, hL⟩ ⟨rfl, c, hc, rfl⟩
      rw [sOf_size] at hi
      have ex : xs[i]? = some xs[i] := List.getElem?_eq_getElem hi
      have hxi := hlt xs[i] (List.getElem_mem hi)
      rw [sOf_get ex] at hc
      have hc : al.getD xs[i] 0 = c := Option.some.inj hc
      have hca : al[xs[i]]? = some c := by
        rw [← hc, List.getD_eq_getElem?_getD]
        simp [hxi]
      obtain ⟨rest, ho⟩ := occ_at hA hca
      refine ⟨rfl, ?_⟩
      refine ⟨_, rfl, rfl, _, rfl, _, _, _, rest, rfl, rfl, ho, ?_⟩
      refine ⟨_, hL, (by rw [rowV_len]; exact small_lt (by rw [List.length_take]; omega)), Same_put sm hD, ?_⟩
      show (upd H2 D (.lst (rowV (xs.take i) ++ [iV xs[i]]))) D = _
      rw [upd_same, rowV_snoc, take_succ ex]
    · rintro H1 ⟨sm, hL⟩
      rw [sOf_size, List.take_length] at hL
      exact k _ D sm hL
end
end RJ

set_option Elab.async false
set_option maxRecDepth 100000
set_option maxHeartbeats 4000000
namespace RJ
open PySem L2
/-- a remainder as a number -/
theorem modN {z t : Int} (ht : 0 < t) : ∃ n : Nat, z % t = (n : Int) ∧ (n : Int) < t := by
  have h1 := Int.emod_nonneg z (show t ≠ 0 by omega)
  have h2 := Int.emod_lt_of_pos z ht
  exact ⟨(z % t).toNat, by omega, by omega⟩
theorem lastIx {n : Int} {t : Nat} {c : Int} (ht : 0 < t) (hc : 0 < c) : ∃ l : Nat, (t : Int) - 1 - n % (if (t : Int) < c then (t : Int) else c) = (l : Int) ∧ l < t := by
  by_cases h : (t : Int) < c
  · rw [if_pos h]
    obtain ⟨m, e, h2⟩ := modN (z := n) (t := (t : Int)) (by omega)
    exact ⟨t - 1 - m, by omega, by omega⟩
  · rw [if_neg h]
    obtain ⟨m, e, h2⟩ := modN (z := n) (t := c) hc
    exact ⟨t - 1 - m, by omega, by omega⟩
theorem min_pos {t : Nat} {c : Int} (ht : 0 < t) (hc : 0 < c) : 0 < (if (t : Int) < c then (t : Int) else c) := by
  by_cases h : (t : Int) < c
  · rw [if_pos h]; omega
  · rw [if_neg h]; exact hc
/-- the drawn list, as it stands -/
structure Dr (H : Hp) (lp tl : Addr) (al : List Nat) (as : List Addr) (ps : List (Nat × Nat)) (T : List (List Nat)) : Prop where
  lp : H lp = some (.lst (refs as))
  prs : Prs H as ps
  tl : H tl = some (.lst (txV al T))
  pl : PL al.length ps T
theorem Dr.same {H H' : Hp} {lp tl : Addr} {al : List Nat} {as : List Addr} {ps : List (Nat × Nat)} {T : List (List Nat)} (h : Dr H lp tl al as ps T) (s : Same H H') : Dr H' lp tl al as ps T := ⟨s _ _ h.lp, h.prs.same s, s _ _ h.tl, h.pl⟩
section
variable {P : Program} {w : World} {K : PySem.W.Frag} {mg : Str → Option Value} {base : Heap}
/-! ### _law_is_proper -/
def spLProper : L2.Sp := fun vs H Q _ => ∃ (tl lp a : Addr) (al : List Nat) (as : List Addr) (ps : List (Nat × Nat)) (T : List (List Nat)) (l m : Nat), vs = [.str (sAl al), .ref tl, .ref lp, .ref a] ∧ Dr H lp tl al as ps T ∧ Alph al ∧ T.length ≤ 900 ∧ H a = some (.tup (pV (l, m))) ∧ l < T.length ∧ m < T.length ∧
  ∀ (H' : Hp) (c : Bool), Same H H' → (c = true ↔ (tx T l ++ tx T m).length ≤ 40 ∧ st al.length ps (tx T l ++ tx T m) = [l, m]) → Q (.bl c) H'
theorem scLProper : FnScope ["_law_alphabet_here", "_law_texts", "_law_pairs", "_law_pair", "_law_piece", "_law_text"] ["_law_alphabet_here", "_law_texts", "_law_pairs", "_law_pair"] (defScope sLProper) := ⟨rfl, rfl, rfl, by decide +kernel, rfl, by decide +kernel, by decide +kernel⟩
theorem ok_lproper {f g c : Addr} {fd gd cd : FuncData} (F : Fun K "_law_is_proper" "_law_is_proper" sLProper f fd) (B : Bn mg) (CS : Cal K mg "_law_staged" sStaged g gd ["_law_many", "_law_pairs", "_law_row"]) (GS : FnOk P w K mg base CX0 2 g gd ["_law_many", "_law_pairs", "_law_row"] spStaged)
    (CL : Cal K mg "_law_letters" sLLetters c cd ["_law_alphabet_here", "_law_text"]) (GL : FnOk P w K mg base CX0 1 c cd ["_law_alphabet_here", "_law_text"] spLLetters) : FnOk P w K mg base CX0 3 f fd ["_law_alphabet_here", "_law_texts", "_law_pairs", "_law_pair"] spLProper := by
  refine F.ok scLProper (fun vs H Q E h => ?_) (fun cdv A outer s H vs Q E hr h => ?_)
  · obtain ⟨tl, lp, a, al, as, ps, T, l, m, rfl, _⟩ := h
    rfl
  · obtain ⟨tl, lp, a, al, as, ps, T, l, m, rfl, D, hA, hT, ha, hl, hm, k⟩ := h
    have hr1 : Room 1 _ := hr.mono (by decide)
    have hale := hA.le
    have hlen := D.pl.len
    have hsl := D.pl.tx_short (D.pl.size hl)
    have hsm := D.pl.tx_short (D.pl.size hm)
    refine ⟨_, pss_cons (ps_for PassesOwn.never rfl (pi_tup (pv 3)) (pg_name (i := 4) scLProper.nd rfl (Or.inl rfl))
        (pss_one (ps_if (pt_not (pt_chain op_le op_lt pe_int (pv 4) (pe_callB call_len_seq (by rfl) B.len b_len (pa_cons (pv 1) pa_nil)))) (pss_one (ps_ret pe_bl)) pss_nil)))
      (pss_cons (ps_set (i := 5) scLProper.nd rfl (Or.inl rfl) (pe_op op_add_str (pe_ix ix_list (pv 1) (pe_ix ix_tup (pv 3) pe_int (fun _ _ => rfl)) (fun _ _ => rfl)) (pe_ix ix_list (pv 1) (pe_ix ix_tup (pv 3) pe_int (fun _ _ => rfl)) (fun _ _ => rfl))))
      (pss_cons (ps_if (pt_cmpR op_gt (pe_callB call_len_str (by rfl) B.len b_len (pa_cons (pv 5) pa_nil)) pe_int (nomark _)) (pss_one (ps_ret pe_bl)) pss_nil)
      (pss_one (ps_ret (pe_cmpR (op_eqD hr.units) (pe_call GS hr (by rfl) CS.g CS.F.kp CS.b .nil pass0 (pa_cons (pe_callB call_len_str (by rfl) B.len b_len (pa_cons (pv 0) pa_nil)) (pa_cons (pv 2) (pa_cons (pe_call GL hr1 (by rfl) CL.g CL.F.kp CL.b .nil pass0 (pa_cons (pv 0) (pa_cons (pv 5) pa_nil))) pa_nil))))
        (pe_lst (pa_cons (pe_ix ix_tup (pv 3) pe_int (fun _ _ => rfl)) (pa_cons (pe_ix ix_tup (pv 3) pe_int (fun _ _ => rfl)) pa_nil))) (nomark _)))))), ?_⟩
    refine ⟨_, rfl, a, rfl, ⟨_, SqT.of ha⟩, for_tup (K := K) (a := a) (xs := pV (l, m)) (fun i σ H' => ∃ v, σ = [some (.str (sAl al)), some (.ref tl), some (.ref lp), some (.ref a), v, none] ∧ H' = H) ⟨none, rfl, rfl⟩ (fun i σ H' _ ⟨_, _, e⟩ => by rw [e]; exact SqT.of ha) ?_ ?_⟩
    · rintro i x σ H' hx ⟨v, rfl, rfl⟩
      obtain ⟨n, rfl, hn⟩ : ∃ n : Nat, x = iV n ∧ n < T.length := by
        match i, hx with
        | 0, hx => exact ⟨l, (Option.some.inj hx).symm, hl⟩
        | 1, hx => exact ⟨m, (Option.some.inj hx).symm, hm⟩
        | i + 2, hx => simp [pV] at hx
      refine ⟨_, rfl, _, _, rfl, rfl, true, blT (by omega), iteT ⟨_, rfl, tl, _, rfl, .inl (SqL.of D.tl), _, _, rfl, rfl, true, blT (by rw [txV_len]; omega), iteF ?_⟩⟩
      exact ⟨_, rfl, rfl⟩
    · rintro σ H' ⟨v, rfl, rfl⟩
      refine ⟨_, rfl, _, rfl, a, _, _, _, rfl, rfl, SqT.of ha, atN (j := 0) rfl rfl, tl, _, _, _, rfl, rfl, SqL.of D.tl, atN (j := l) rfl (txV_get hl), ?_⟩
      refine ⟨_, rfl, _, rfl, a, _, _, _, rfl, rfl, SqT.of ha, atN (j := 1) rfl rfl, tl, _, _, _, rfl, rfl, SqL.of D.tl, atN (j := m) rfl (txV_get hm), ?_⟩
      refine ⟨_, _, rfl, rfl, (by rw [sOf_len, sOf_len]; exact small_line (by omega)), ?_⟩
      rw [sOf_app]
      refine ⟨_, rfl, _, rfl, (by rw [sOf_len, List.length_append]; exact small_line (by omega)), _, _, rfl, rfl, _, rfl, ?_⟩
      refine ite2 (fun c => ?_) (fun c => ?_)
      · have c := of_decide_eq_true c
        rw [sOf_len] at c
        exact k _ false (Same.refl _) ⟨fun z => (nomatch z), fun z => by have := z.1; omega⟩
      · have c := nd_of c
        rw [sOf_len] at c
        refine ⟨_, rfl, _, rfl, (by show al.length ≤ sizeLine; exact small_line (by omega)), _, rfl, _, rfl, _, rfl, ?_⟩
        refine ⟨al, tx T l ++ tx T m, rfl, hA, fun x hx => ?_, by rw [List.length_append]; omega, fun H1 q1 s1 h1 => ?_⟩
        · rcases List.mem_append.mp hx with z | z
          · exact D.pl.tx_lt l (D.pl.size hl) x z
          · exact D.pl.tx_lt m (D.pl.size hm) x z
        refine ⟨lp, q1, al.length, as, ps, _, rfl, s1 _ _ D.lp, D.prs.same s1, h1, by rw [List.length_append]; omega, by omega, fun H2 q2 s2 h2 => ?_⟩
        have s02 := s1.trans s2
        have ha2 := s02 _ _ ha
        refine ⟨_, rfl, a, _, _, _, rfl, rfl, SqT.of ha2, atN (j := 0) rfl rfl, _, rfl, a, _, _, _, rfl, rfl, SqT.of ha2, atN (j := 1) rfl rfl, (by show 2 ≤ sizeLine; decide), fun t ht => ?_⟩
        refine eq_ll (l := st al.length ps (tx T l ++ tx T m)) (m := [l, m]) (Same_new ht _ _ h2) upd_same ?_
        refine k _ _ (Same_nn s02 ht) ⟨fun z => ⟨by omega, of_decide_eq_true z⟩, fun z => decide_eq_true z.2⟩
/-! ### _law_ends -/
def endsL (T : List (List Nat)) (row : List Nat) (n : Nat) : List Nat := (List.range n).map fun j => (txr T (row.take (j + 1))).length
theorem endsL_snoc (T : List (List Nat)) (row : List Nat) (n : Nat) : endsL T row (n + 1) = endsL T row n ++ [(txr T (row.take (n + 1))).length] := by
  unfold endsL; rw [List.range_succ, List.map_append]; rfl
theorem endsL_at {T : List (List Nat)} {row : List Nat} {k : Nat} : k ∈ endsL T row row.length ↔ At T k row := by
  unfold endsL
  rw [List.mem_map]
  constructor
  · rintro ⟨j, hj, e⟩
    have hj := List.mem_range.mp hj
    refine ⟨row.take (j + 1), row.drop (j + 1), fun z => ?_, (List.take_append_drop _ _).symm, e⟩
    have : min (j + 1) row.length = 0 := by rw [← List.length_take, z]; rfl
    omega
  · rintro ⟨A, B, hA, e, hk⟩
    have hl : 0 < A.length := List.length_pos_iff.mpr hA
    refine ⟨A.length - 1, List.mem_range.mpr (by rw [e, List.length_append]; omega), ?_⟩
    rw [show A.length - 1 + 1 = A.length by omega, e, List.take_left]
    exact hk
def spEnds : L2.Sp := fun vs H Q _ => ∃ (r tl : Addr) (al : List Nat) (T : List (List Nat)) (row : List Nat), vs = [.ref r, .ref tl] ∧ H r = some (.lst (rowV row)) ∧ H tl = some (.lst (txV al T)) ∧ (∀ x ∈ row, x < T.length ∧ (tx T x).length ≤ 40) ∧ row.length ≤ 1000 ∧
  ∀ (H' : Hp) (q : Addr) (ms : List Nat), Same H H' → H' q = some (.lst (rowV ms)) → (∀ k, k ∈ ms ↔ At T k row) → Q (.ref q) H'
theorem scEnds : FnScope ["_law_row", "_law_texts", "_law_ends_here", "_law_marks", "_law_piece"] ["_law_row", "_law_texts"] (defScope sEnds) := ⟨rfl, rfl, rfl, by decide +kernel, rfl, by decide +kernel, by decide +kernel⟩
theorem ok_ends {f : Addr} {fd : FuncData} (F : Fun K "_law_ends" "_law_ends" sEnds f fd) (B : Bn mg) : FnOk P w K mg base CX0 1 f fd ["_law_row", "_law_texts"] spEnds := by
  refine F.ok scEnds (fun vs H Q E h => ?_) (fun cdv A outer s H vs Q E hr h => ?_)
  · obtain ⟨r, tl, al, T, row, rfl, _⟩ := h
    rfl
  · obtain ⟨r, tl, al, T, row, rfl, hrow, htl, hx, hlen, k⟩ := h
    refine ⟨_, pss_cons (ps_set (i := 2) scEnds.nd rfl (Or.inl rfl) pe_int) (pss_cons (ps_set (i := 3) scEnds.nd rfl (Or.inl rfl) (pe_lst pa_nil))
      (pss_cons (ps_for PassesOwn.never rfl (pi_list (pv 0)) (pg_name (i := 4) scEnds.nd rfl (Or.inl rfl))
        (pss_cons (ps_set (i := 2) scEnds.nd rfl (Or.inl rfl) (pe_op op_add (pv 2) (pe_callB call_len_str (by rfl) B.len b_len (pa_cons (pe_ix ix_list (pv 1) (pv 4) (fun _ _ => rfl)) pa_nil))))
        (pss_one (ps_expr (pe_bm PySem.F.plainAttrs_list PySem.F.slot_list_append PySem.F.type_list_append mt_append (pv 3) (pa_cons (pv 2) pa_nil))))))
      (pss_one (ps_ret (pv 3))))), ?_⟩
    refine ⟨Nat.zero_le _, fun l hl => ?_⟩
    have hrow1 := Same_new (o := .lst []) hl _ _ hrow
    refine ⟨_, rfl, r, rfl, ⟨_, SqL.of hrow1⟩, for_list (K := K) (a := r) (xs := rowV row) (fun i σ H' => ∃ v4 : Option V, σ = [some (.ref r), some (.ref tl), some (iV (txr T (row.take i)).length), some (.ref l), v4] ∧ Same H H' ∧ H' l = some (.lst (rowV (endsL T row i))))
      ⟨none, rfl, Same_new hl, upd_same⟩ (fun i σ H' _ ⟨_, _, s, _⟩ => SqL.of (s _ _ hrow)) ?_ ?_⟩
    · rintro i x σ H' hi ⟨v4, rfl, sm, hL⟩
      obtain ⟨n, hn, rfl⟩ := rowV_inv hi
      have hil : i < row.length := (List.getElem?_eq_some_iff.mp hn).1
      obtain ⟨h1, h2⟩ := hx n (List.mem_of_getElem? hn)
      have elen : (txr T (row.take (i + 1))).length = (txr T (row.take i)).length + (tx T n).length := by
        rw [take_succ hn, txr_append, txr_cons, txr_nil, List.append_nil, List.length_append]
      refine ⟨_, rfl, _, rfl, _, rfl, tl, _, _, _, rfl, rfl, SqL.of (sm _ _ htl), atN (j := n) rfl (txV_get h1), _, rfl, (by rw [sOf_len]; exact small_line (by omega)), _, _, rfl, rfl, ?_⟩
      refine ⟨_, rfl, .inl ⟨rfl, _, SqL.of hL⟩, _, rfl, l, _, _, rfl, rfl, hL, (by rw [rowV_len]; unfold endsL; rw [List.length_map, List.length_range]; exact small_lt (by omega)), ?_⟩
      have e : V.int (((txr T (row.take i)).length : Int) + ((sOf al (tx T n)).length : Int)) = iV (txr T (row.take (i + 1))).length := by
        rw [elen, sOf_len]; unfold iV; simp
      refine ⟨some (iV n), ?_, Same_put sm hl, ?_⟩
      · show [some (.ref r), some (.ref tl), some (V.int (((txr T (row.take i)).length : Int) + ((sOf al (tx T n)).length : Int))), some (.ref l), some (iV n)] = _
        rw [e]
      · show upd H' l (.lst (rowV (endsL T row i) ++ [V.int (((txr T (row.take i)).length : Int) + ((sOf al (tx T n)).length : Int))])) l = _
        rw [upd_same, e, rowV_snoc, endsL_snoc]
    · rintro σ H' ⟨v4, rfl, sm, hL⟩
      rw [rowV_len] at hL
      exact ⟨_, rfl, k _ l _ sm hL fun k => endsL_at⟩
/-! ### _law_first_cross -/
theorem inV_row {k : Nat} : ∀ ms : List Nat, inV (iV k) (rowV ms) = decide (k ∈ ms)
  | [] => rfl
  | a :: ms => by
    have ih := inV_row (k := k) ms
    have e : inV (iV k) (rowV (a :: ms)) = (eqV (iV a) (iV k) || inV (iV k) (rowV ms)) := rfl
    rw [e, ih]
    have e2 : eqV (iV a) (iV k) = decide (a = k) := by
      show (((a : Nat) : Int) == ((k : Nat) : Int)) = decide (a = k)
      rw [Bool.eq_iff_iff]; simp; omega
    rw [e2, Bool.eq_iff_iff]
    simp only [Bool.or_eq_true, decide_eq_true_eq, List.mem_cons]
    exact ⟨fun h => h.imp Eq.symm id, fun h => h.imp Eq.symm id⟩
theorem flat_row : ∀ ms : List Nat, (rowV ms).all flatV = true
  | [] => rfl
  | a :: ms => by
    have ih := flat_row ms
    show (flatV (iV a) && (rowV ms).all flatV) = true
    rw [ih]; rfl
def spFirst : L2.Sp := fun vs H Q _ => ∃ (lp tl : Addr) (al : List Nat) (as : List Addr) (ps : List (Nat × Nat)) (T : List (List Nat)) (l m : Nat), vs = [.str (sAl al), .ref lp, .ref tl, iV l, iV m] ∧ Dr H lp tl al as ps T ∧ Alph al ∧ T.length ≤ 900 ∧ l < T.length ∧ m < T.length ∧
  ∀ (H' : Hp) (o : Option Nat), Same H H' → IsFC al.length ps T (tx T l).length (tx T l ++ tx T m) o → Q (bV o) H'
theorem scFirst : FnScope ["_law_alphabet_here", "_law_pairs", "_law_texts", "_law_left", "_law_right", "_law_row", "_law_rank"] ["_law_alphabet_here", "_law_pairs", "_law_texts", "_law_left", "_law_right"] (defScope sFirst) := ⟨rfl, rfl, rfl, by decide +kernel, rfl, by decide +kernel, by decide +kernel⟩
theorem ok_first {f g c e : Addr} {fd gd cd ed : FuncData} (F : Fun K "_law_first_cross" "_law_first_cross" sFirst f fd) (B : Bn mg) (CJ : Cal K mg "_law_join_all" sJoinAll g gd ["_law_row", "_law_pair", "_law_made"]) (GJ : FnOk P w K mg base CX0 1 g gd ["_law_row", "_law_pair", "_law_made"] spJoinAll)
    (CL : Cal K mg "_law_letters" sLLetters c cd ["_law_alphabet_here", "_law_text"]) (GL : FnOk P w K mg base CX0 1 c cd ["_law_alphabet_here", "_law_text"] spLLetters)
    (CE : Cal K mg "_law_ends" sEnds e ed ["_law_row", "_law_texts"]) (GE : FnOk P w K mg base CX0 1 e ed ["_law_row", "_law_texts"] spEnds) : FnOk P w K mg base CX0 2 f fd ["_law_alphabet_here", "_law_pairs", "_law_texts", "_law_left", "_law_right"] spFirst := by
  refine F.ok scFirst (fun vs H Q E h => ?_) (fun cdv A outer s H vs Q E hr h => ?_)
  · obtain ⟨lp, tl, al, as, ps, T, l, m, rfl, _⟩ := h
    rfl
  · obtain ⟨lp, tl, al, as, ps, T, l, m, rfl, D, hA, hT, hl, hm, k⟩ := h
    have hale := hA.le
    have hlen := D.pl.len
    have hsl := D.pl.tx_short (D.pl.size hl)
    have hsm := D.pl.tx_short (D.pl.size hm)
    have las := D.prs.len
    have lrf : (refs as).length = ps.length := by unfold refs; rw [List.length_map]; exact las
    have hal : (sAl al).length = al.length := rfl
    have hlt : ∀ x ∈ tx T l ++ tx T m, x < al.length := fun x hx => by
      rcases List.mem_append.mp hx with z | z
      · exact D.pl.tx_lt l (D.pl.size hl) x z
      · exact D.pl.tx_lt m (D.pl.size hm) x z
    have h80 : (tx T l ++ tx T m).length ≤ 80 := by rw [List.length_append]; omega
    refine ⟨_, pss_cons (ps_set (i := 5) scFirst.nd rfl (Or.inl rfl) (pe_call GL hr (by rfl) CL.g CL.F.kp CL.b .nil pass0 (pa_cons (pv 0) (pa_cons (pe_op op_add_str (pe_ix ix_list (pv 2) (pv 3) (fun _ _ => rfl)) (pe_ix ix_list (pv 2) (pv 4) (fun _ _ => rfl))) pa_nil))))
      (pss_cons (ps_for PassesOwn.never rfl (pi_range1 (by rfl) B.range (pa_cons (pe_callB call_len_seq (by rfl) B.len b_len (pa_cons (pv 1) pa_nil)) pa_nil)) (pg_name (i := 6) scFirst.nd rfl (Or.inl rfl))
        (pss_cons (ps_set (i := 5) scFirst.nd rfl (Or.inl rfl) (pe_call GJ hr (by rfl) CJ.g CJ.F.kp CJ.b .nil pass0 (pa_cons (pv 5) (pa_cons (pe_ix ix_list (pv 1) (pv 6) (fun _ _ => rfl)) (pa_cons (pe_op op_add (pe_callB call_len_str (by rfl) B.len b_len (pa_cons (pv 0) pa_nil)) (pv 6)) pa_nil)))))
        (pss_one (ps_if (pt_cmpR op_notIn_seq (pe_callB call_len_str (by rfl) B.len b_len (pa_cons (pe_ix ix_list (pv 2) (pv 3) (fun _ _ => rfl)) pa_nil)) (pe_call GE hr (by rfl) CE.g CE.F.kp CE.b .nil pass0 (pa_cons (pv 5) (pa_cons (pv 2) pa_nil))) rfl)
          (pss_one (ps_ret (pv 6))) pss_nil))))
      (pss_one (ps_ret pe_non))), ?_⟩
    refine ⟨_, rfl, _, rfl, _, rfl, tl, _, _, _, rfl, rfl, SqL.of D.tl, atN (j := l) rfl (txV_get hl), _, rfl, _, rfl, tl, _, _, _, rfl, rfl, SqL.of D.tl, atN (j := m) rfl (txV_get hm), _, _, rfl, rfl, (by rw [sOf_len, sOf_len]; exact small_line (by omega)), ?_⟩
    rw [sOf_app]
    refine ⟨al, _, rfl, hA, hlt, by omega, fun H1 q1 s1 h1 => ?_⟩
    refine ⟨_, rfl, _, _, rfl, .inl (SqL.of (s1 _ _ D.lp)), _, rfl, (by rw [lrf]; omega), (by rw [lrf]; omega), for_range (lo := 0) (n := (((refs as).length : Nat) : Int).toNat)
      (fun i σ H' => ∃ (q : Addr) (v6 : Option V), σ = [some (.str (sAl al)), some (.ref lp), some (.ref tl), some (iV l), some (iV m), some (.ref q), v6] ∧ Same H H' ∧ H' q = some (.lst (rowV (S al.length ps i (tx T l ++ tx T m)))) ∧
        ∀ j, j < i → At T (tx T l).length (S al.length ps (j + 1) (tx T l ++ tx T m))) ⟨q1, none, rfl, s1, h1, fun j hj => absurd hj (by omega)⟩ ?_ ?_⟩
    · rintro i σ H' hi ⟨q, v6, rfl, sm, hq, hat⟩
      rw [lrf] at hi
      have ep : ps[i]? = some ps[i] := List.getElem?_eq_getElem (by omega)
      obtain ⟨a, ha1, ha2⟩ := D.prs.get ep
      have hl1 := S_len al.length ps (tx T l ++ tx T m) i (by omega)
      have D' := D.same sm
      refine ⟨_, rfl, _, rfl, _, rfl, lp, _, _, _, rfl, rfl, SqL.of D'.lp, atN (j := i) (by omega) (refs_get ha1), _, rfl, _, rfl, (by rw [hal]; exact small_line (by omega)), _, rfl, _, _, rfl, rfl, ?_⟩
      refine ⟨q, a, _, ps[i], al.length + i, (by rw [hal]; unfold iV; simp), hq, sm _ _ ha2, by omega, fun H2 q2 s2 hq2 => ?_⟩
      rw [← S_succ ep] at hq2
      have D2 := D'.same s2
      have hl2 := S_len al.length ps (tx T l ++ tx T m) (i + 1) (by omega)
      refine ⟨_, rfl, _, rfl, tl, _, _, _, rfl, rfl, SqL.of D2.tl, atN (j := l) rfl (txV_get hl), _, rfl, (by rw [sOf_len]; exact small_line (by omega)), _, rfl, _, rfl, ?_⟩
      refine ⟨q2, tl, al, T, _, rfl, hq2, D2.tl, fun x hx => ?_, by omega, fun H3 q3 ms s3 hq3 hms => ?_⟩
      · have := S_below D.pl.low (n := T.length) (fun x hx => by have := hlt x hx; omega) (by omega) (i + 1) (by omega) x hx
        exact ⟨this, D.pl.tx_short (D.pl.size this)⟩
      rw [sOf_len]
      refine ⟨q3, _, rfl, .inl (SqL.of hq3), rfl, flat_row ms, _, rfl, ?_⟩
      have s03 := (sm.trans s2).trans s3
      show if (!inV (iV (tx T l).length) (rowV ms)) = true then _ else _
      rw [inV_row]
      by_cases c : (tx T l).length ∈ ms
      · rw [decide_eq_true c]
        refine iteF ⟨q2, _, rfl, s03, s3 _ _ hq2, fun j hj => ?_⟩
        by_cases e : j < i
        · exact hat j e
        · have : j = i := by omega
          subst this
          exact (hms _).mp c
      · rw [decide_eq_false c]
        refine iteT ⟨_, rfl, ?_⟩
        have e : V.int (0 + (i : Int)) = bV (some i) := by
          show V.int (0 + (i : Int)) = V.int ((i : Nat) : Int)
          rw [Int.zero_add]
        rw [e]
        exact k _ (some i) s03 ⟨by omega, fun z => c ((hms _).mpr z), hat⟩
    · rintro σ H' ⟨q, v6, rfl, sm, hq, hat⟩
      refine k _ none sm fun j hj => hat j ?_
      rw [lrf]; omega
end
end RJ

set_option Elab.async false
set_option maxRecDepth 100000
set_option maxHeartbeats 4000000
namespace RJ
open PySem L2
open C8 (pss_cut)
theorem pV_of {z u : Int} {l m : Nat} (h1 : z = (l : Int)) (h2 : u = (m : Int)) : [V.int z, V.int u] = pV (l, m) := by rw [h1, h2]; rfl
section
variable {P : Program} {w : World} {K : PySem.W.Frag} {mg : Str → Option Value} {base : Heap}
/-- the drawn list and its texts, new since H -/
structure Grown (H H' : Hp) (lp tl : Addr) (al : List Nat) (ps : List (Nat × Nat)) (T : List (List Nat)) : Prop where
  same : Same H H'
  nl : H lp = none
  nt : H tl = none
  ne : lp ≠ tl
  dr : ∃ as, Dr H' lp tl al as ps T
/-- the next join is put on both lists -/
theorem Grown.put {H H' : Hp} {lp tl a : Addr} {al : List Nat} {as : List Addr} {ps : List (Nat × Nat)} {T : List (List Nat)} {l m : Nat} (g : Grown H H' lp tl al ps T) (d : Dr H' lp tl al as ps T) (ha : H' a = some (.tup (pV (l, m)))) (hl : l < T.length) (hm : m < T.length)
    (hc : st al.length ps (tx T l ++ tx T m) = [l, m]) (h40 : (tx T l ++ tx T m).length ≤ 40) :
    Grown H (upd (upd H' lp (.lst (refs (as ++ [a])))) tl (.lst (txV al (T ++ [tx T l ++ tx T m])))) lp tl al (ps ++ [(l, m)]) (T ++ [tx T l ++ tx T m]) := by
  have k1 : Tk H' (upd H' lp (.lst (refs (as ++ [a])))) := Tk.upd d.lp (fun _ q => nomatch q)
  have k2 : Tk (upd H' lp (.lst (refs (as ++ [a])))) (upd (upd H' lp (.lst (refs (as ++ [a])))) tl (.lst (txV al (T ++ [tx T l ++ tx T m])))) := Tk.upd (o := .lst (txV al T)) (by rw [upd_ne g.ne.symm]; exact d.tl) (fun _ q => nomatch q)
  refine ⟨Same_put (Same_put g.same g.nl) g.nt, g.nl, g.nt, g.ne, as ++ [a], ?_, (d.prs.snoc ha).tk (k1.trans k2), upd_same, d.pl.push hl hm hc h40⟩
  rw [upd_ne g.ne]; exact upd_same
theorem Grown.on {H H' H'' : Hp} {lp tl : Addr} {al : List Nat} {ps : List (Nat × Nat)} {T : List (List Nat)} (g : Grown H H' lp tl al ps T) (s : Same H' H'') : Grown H H'' lp tl al ps T :=
  ⟨g.same.trans s, g.nl, g.nt, g.ne, let ⟨as, d⟩ := g.dr; ⟨as, d.same s⟩⟩
theorem txV_start {al : List Nat} : (sAl al).cps.toList.map (fun c => V.str ⟨#[c]⟩) = txV al ((List.range al.length).map fun i => [i]) := by
  refine List.ext_getElem? fun i => ?_
  show (al.map fun c => V.str ⟨#[c]⟩)[i]? = _
  by_cases c : i < al.length
  · have ex : al[i]? = some al[i] := List.getElem?_eq_getElem c
    unfold txV
    rw [List.getElem?_map, ex, List.getElem?_map, List.getElem?_map, List.getElem?_range c]
    show some (V.str ⟨#[al[i]]⟩) = some (V.str (sOf al [i]))
    rw [sOf_one ex]
  · rw [List.getElem?_eq_none (by rw [List.length_map]; omega), List.getElem?_eq_none (by rw [txV_len, List.length_map, List.length_range]; omega)]
/-! ### _law_list -/
def spList : L2.Sp := fun vs H Q _ => ∃ (nl : Addr) (ns al : List Nat) (k many : Nat), vs = [.ref nl, iV k, .str (sAl al), iV many] ∧ H nl = some (.lst (rowV ns)) ∧ k + 2 * many ≤ ns.length ∧ many ≤ 100 ∧ Alph al ∧
  ∀ (H' : Hp) (t lp tl : Addr) (as : List Addr) (ps : List (Nat × Nat)) (T : List (List Nat)), Same H H' → H' t = some (.tup [.ref lp, .ref tl]) → Dr H' lp tl al as ps T → ps.length ≤ many → Q (.ref t) H'
theorem scList : FnScope ["_law_numbers_here", "_law_k", "_law_alphabet_here", "_law_many", "_law_pairs", "_law_texts", "_law_j", "_law_pair"] ["_law_numbers_here", "_law_k", "_law_alphabet_here", "_law_many"] (defScope sList) := ⟨rfl, rfl, rfl, by decide +kernel, rfl, by decide +kernel, by decide +kernel⟩
theorem ok_list {f g : Addr} {fd gd : FuncData} (F : Fun K "_law_list" "_law_list" sList f fd) (B : Bn mg) (CP : Cal K mg "_law_is_proper" sLProper g gd ["_law_alphabet_here", "_law_texts", "_law_pairs", "_law_pair"]) (G : FnOk P w K mg base CX0 3 g gd ["_law_alphabet_here", "_law_texts", "_law_pairs", "_law_pair"] spLProper) :
    FnOk P w K mg base CX0 4 f fd ["_law_numbers_here", "_law_k", "_law_alphabet_here", "_law_many"] spList := by
  refine F.ok scList (fun vs H Q E h => ?_) (fun cdv A outer s H vs Q E hr h => ?_)
  · obtain ⟨nl, ns, al, k, many, rfl, _⟩ := h
    rfl
  · obtain ⟨nl, ns, al, kk, many, rfl, hnl, hk, hmany, hA, k⟩ := h
    have hal : (sAl al).cps.size = al.length := rfl
    have hale := hA.le
    have hpos := hA.pos
    refine ⟨_, pss_cons (ps_set (i := 4) scList.nd rfl (Or.inl rfl) (pe_lst pa_nil)) (pss_cons (ps_set (i := 5) scList.nd rfl (Or.inl rfl) (pe_callTy (call_listS rfl) (by rfl) B.list b_list (pa_cons (pv 2) pa_nil)))
      (pss_cons (ps_for PassesOwn.never rfl (pi_range1 (by rfl) B.range (pa_cons (pv 3) pa_nil)) (pg_name (i := 6) scList.nd rfl (Or.inl rfl))
        (pss_cut (ps_set (i := 7) scList.nd rfl (Or.inl rfl) (pe_tup (pa_cons
            (pe_op op_mod (pe_callTy call_int1 (by rfl) B.int b_int (pa_cons (pe_ix ix_list (pv 0) (pe_op op_add (pv 1) (pe_op op_mul pe_int (pv 6))) (fun _ _ => rfl)) pa_nil)) (pe_callB call_len_seq (by rfl) B.len b_len (pa_cons (pv 5) pa_nil)))
            (pa_cons (pe_op op_mod (pe_callTy call_int1 (by rfl) B.int b_int (pa_cons (pe_ix ix_list (pv 0) (pe_op op_add (pe_op op_add (pv 1) (pe_op op_mul pe_int (pv 6))) pe_int) (fun _ _ => rfl)) pa_nil)) (pe_callB call_len_seq (by rfl) B.len b_len (pa_cons (pv 5) pa_nil))) pa_nil))))
        (pss_cut (ps_if (pt_cmpR op_eq (pe_op op_mod (pe_callTy call_int1 (by rfl) B.int b_int (pa_cons (pe_op op_fdiv (pe_ix ix_list (pv 0) (pe_op op_add (pv 1) (pe_op op_mul pe_int (pv 6))) (fun _ _ => rfl)) pe_int) pa_nil)) pe_int) pe_int (nomark _))
          (pss_one (ps_set (i := 7) scList.nd rfl (Or.inl rfl) (pe_tup (pa_cons
            (pe_op op_sub (pe_op op_sub (pe_callB call_len_seq (by rfl) B.len b_len (pa_cons (pv 5) pa_nil)) pe_int) (pe_op op_mod (pe_callTy call_int1 (by rfl) B.int b_int (pa_cons (pe_ix ix_list (pv 0) (pe_op op_add (pv 1) (pe_op op_mul pe_int (pv 6))) (fun _ _ => rfl)) pa_nil)) (pe_callB (call_min2 rfl) (by rfl) B.min b_min (pa_cons pe_int (pa_cons (pe_callB call_len_seq (by rfl) B.len b_len (pa_cons (pv 5) pa_nil)) pa_nil)))))
            (pa_cons (pe_ix ix_tup (pv 7) pe_int (fun _ _ => rfl)) pa_nil))))) pss_nil)
        (pss_cut (ps_if (pt_cmpR op_eq (pe_op op_mod (pe_callTy call_int1 (by rfl) B.int b_int (pa_cons (pe_op op_fdiv (pe_ix ix_list (pv 0) (pe_op op_add (pe_op op_add (pv 1) (pe_op op_mul pe_int (pv 6))) pe_int) (fun _ _ => rfl)) pe_int) pa_nil)) pe_int) pe_int (nomark _))
          (pss_one (ps_set (i := 7) scList.nd rfl (Or.inl rfl) (pe_tup (pa_cons (pe_ix ix_tup (pv 7) pe_int (fun _ _ => rfl)) (pa_cons
            (pe_op op_sub (pe_op op_sub (pe_callB call_len_seq (by rfl) B.len b_len (pa_cons (pv 5) pa_nil)) pe_int) (pe_op op_mod (pe_callTy call_int1 (by rfl) B.int b_int (pa_cons (pe_ix ix_list (pv 0) (pe_op op_add (pe_op op_add (pv 1) (pe_op op_mul pe_int (pv 6))) pe_int) (fun _ _ => rfl)) pa_nil)) (pe_callB (call_min2 rfl) (by rfl) B.min b_min (pa_cons pe_int (pa_cons (pe_callB call_len_seq (by rfl) B.len b_len (pa_cons (pv 5) pa_nil)) pa_nil)))))
            pa_nil))))) pss_nil)
        (pss_one (ps_if (pt_val (pe_call G hr (by rfl) CP.g CP.F.kp CP.b .nil pass0 (pa_cons (pv 2) (pa_cons (pv 5) (pa_cons (pv 4) (pa_cons (pv 7) pa_nil))))))
          (pss_cons (ps_expr (pe_bm PySem.F.plainAttrs_list PySem.F.slot_list_append PySem.F.type_list_append mt_append (pv 4) (pa_cons (pv 7) pa_nil)))
          (pss_one (ps_expr (pe_bm PySem.F.plainAttrs_list PySem.F.slot_list_append PySem.F.type_list_append mt_append (pv 5) (pa_cons (pe_op op_add_str (pe_ix ix_list (pv 5) (pe_ix ix_tup (pv 7) pe_int (fun _ _ => rfl)) (fun _ _ => rfl)) (pe_ix ix_list (pv 5) (pe_ix ix_tup (pv 7) pe_int (fun _ _ => rfl)) (fun _ _ => rfl))) pa_nil))))) pss_nil))))))
      (pss_one (ps_ret (pe_tup (pa_cons (pv 4) (pa_cons (pv 5) pa_nil))))))), ?_⟩
    refine ⟨Nat.zero_le _, fun lp hlp => ?_⟩
    have s1 : Same H (upd H lp (.lst [])) := Same_new hlp
    refine ⟨_, rfl, _, rfl, (by rw [hal]; exact small_line (by omega)), fun tl htl => ?_⟩
    rw [txV_start]
    have nlt : lp ≠ tl := ne_of_none upd_same htl
    have ntl : H tl = none := s1.free htl
    have g0 : Grown H (upd (upd H lp (.lst [])) tl (.lst (txV al ((List.range al.length).map fun i => [i])))) lp tl al [] ((List.range al.length).map fun i => [i]) :=
      ⟨Same_put s1 ntl, hlp, ntl, nlt, [], by rw [upd_ne nlt]; exact upd_same, Prs.nil, upd_same, PL.base hpos⟩
    refine ⟨_, rfl, _, rfl, by omega, by omega, for_range (lo := 0) (n := ((many : Nat) : Int).toNat)
      (fun i σ H' => ∃ (ps : List (Nat × Nat)) (T : List (List Nat)) (v6 v7 : Option V), σ = [some (.ref nl), some (iV kk), some (.str (sAl al)), some (iV many), some (.ref lp), some (.ref tl), v6, v7] ∧ Grown H H' lp tl al ps T ∧ ps.length ≤ i) ⟨[], _, none, none, rfl, g0, Nat.le_refl _⟩ ?_ ?_⟩
    · rintro i σ H' hi ⟨ps, T, v6, v7, rfl, g, hpi⟩
      have hi : i < many := by omega
      obtain ⟨as0, d0⟩ := g.dr
      have hTl := d0.pl.len
      have hT0 : 0 < T.length := by omega
      have hT9 : T.length ≤ 900 := by omega
      obtain ⟨n1, hn1⟩ : ∃ n, ns[kk + 2 * i]? = some n := ⟨_, List.getElem?_eq_getElem (by omega)⟩
      obtain ⟨n2, hn2⟩ : ∃ n, ns[kk + 2 * i + 1]? = some n := ⟨_, List.getElem?_eq_getElem (by omega)⟩
      have rd : ∀ {H2 : Hp}, Same H' H2 → H2 nl = some (.lst (rowV ns)) := fun s => (g.same.trans s) _ _ hnl
      have tlen : ((((txV al T).length : Nat) : Int)) = (T.length : Int) := by rw [txV_len]
      -- pair = (..)
      refine ⟨fun σ' H2 => ∃ (a : Addr) (l m : Nat), σ' = [some (.ref nl), some (iV kk), some (.str (sAl al)), some (iV many), some (.ref lp), some (.ref tl), some (iV i), some (.ref a)] ∧ Same H' H2 ∧ H2 a = some (.tup (pV (l, m))) ∧ l < T.length ∧ m < T.length, ?_, ?_⟩
      · obtain ⟨l, el, hl⟩ := modN (z := (n1 : Int)) (t := (T.length : Int)) (by omega)
        obtain ⟨m, em, hm⟩ := modN (z := (n2 : Int)) (t := (T.length : Int)) (by omega)
        refine ⟨_, rfl, _, rfl, _, rfl, _, _, rfl, rfl, .inl ⟨by decide, by decide⟩, _, _, rfl, rfl, nl, _, _, _, rfl, rfl, SqL.of (rd (Same.refl _)), atN (j := kk + 2 * i) (by omega) (rowV_get hn1), .inl ⟨_, rfl, _, rfl, tl, _, rfl, .inl (SqL.of d0.tl), _, _, rfl, rfl, by rw [tlen]; omega, ?_⟩⟩
        refine ⟨_, rfl, _, rfl, _, rfl, _, _, rfl, rfl, .inl ⟨by decide, by decide⟩, _, _, rfl, rfl, _, _, rfl, rfl, nl, _, _, _, rfl, rfl, SqL.of (rd (Same.refl _)), atN (j := kk + 2 * i + 1) (by omega) (rowV_get hn2), .inl ⟨_, rfl, _, rfl, tl, _, rfl, .inl (SqL.of d0.tl), _, _, rfl, rfl, by rw [tlen]; omega, ?_⟩⟩
        refine ⟨(by show 2 ≤ sizeLine; decide), fun t ht => ?_⟩
        refine ⟨t, l, m, ?_, Same_new ht, upd_same.trans (congrArg (fun z => some (HO.tup z)) (pV_of ?_ ?_)), by omega, by omega⟩
        · show [some (V.ref nl), some (iV kk), some (V.str (sAl al)), some (iV many), some (V.ref lp), some (V.ref tl), some (V.int (0 + (i : Int))), some (V.ref t)] = _
          rw [Int.zero_add]; rfl
        · show (n1 : Int) % (((txV al T).length : Nat) : Int) = _
          rw [tlen]; exact el
        · show (n2 : Int) % (((txV al T).length : Nat) : Int) = _
          rw [tlen]; exact em
      rintro σ' H2 ⟨a, l, m, rfl, s2, ha, hl, hm⟩
      -- the first may be one of the last three
      refine ⟨fun σ' H2 => ∃ (a : Addr) (l m : Nat), σ' = [some (.ref nl), some (iV kk), some (.str (sAl al)), some (iV many), some (.ref lp), some (.ref tl), some (iV i), some (.ref a)] ∧ Same H' H2 ∧ H2 a = some (.tup (pV (l, m))) ∧ l < T.length ∧ m < T.length, ?_, ?_⟩
      · have d2 := d0.same s2
        refine ⟨_, rfl, _, rfl, _, rfl, _, _, rfl, rfl, .inl ⟨by decide, by decide⟩, _, _, rfl, rfl, nl, _, _, _, rfl, rfl, SqL.of (rd s2), atN (j := kk + 2 * i) (by omega) (rowV_get hn1), _, _, rfl, rfl, ⟨by decide, by decide⟩, .inl ⟨_, rfl, _, _, rfl, rfl, (by show (0 : Int) < 3; decide), rfl, _, rfl, ?_⟩⟩
        refine ite2 (fun _ => ?_) (fun _ => ⟨a, l, m, rfl, s2, ha, hl, hm⟩)
        obtain ⟨l', el, hl'⟩ := lastIx (n := (n1 : Int)) (t := T.length) (c := 3) hT0 (by decide)
        have mp := min_pos (t := T.length) (c := 3) hT0 (by decide)
        refine ⟨_, rfl, tl, _, rfl, .inl (SqL.of d2.tl), _, _, rfl, rfl, _, rfl, _, rfl, _, rfl, _, _, rfl, rfl, .inl ⟨by decide, by decide⟩, _, _, rfl, rfl, nl, _, _, _, rfl, rfl, SqL.of (rd s2), atN (j := kk + 2 * i) (by omega) (rowV_get hn1), .inl ⟨_, rfl, _, rfl, tl, _, rfl, .inl (SqL.of d2.tl), _, _, rfl, _, _, rfl, rfl, by rw [tlen]; exact mp, _, _, rfl, rfl, ?_⟩⟩
        refine ⟨_, rfl, a, _, _, _, rfl, rfl, SqT.of ha, atN (j := 1) rfl rfl, (by show 2 ≤ sizeLine; decide), fun t ht => ?_⟩
        refine ⟨t, l', m, rfl, Same_nn s2 ht, upd_same.trans (congrArg (fun z => some (HO.tup z)) (pV_of ?_ rfl)), hl', hm⟩
        show (((txV al T).length : Nat) : Int) - 1 - (n1 : Int) % (if (((txV al T).length : Nat) : Int) < 3 then (((txV al T).length : Nat) : Int) else 3) = _
        rw [tlen]; exact el
      clear ha hl hm s2
      clear a l m H2
      rintro σ' H2 ⟨a, l, m, rfl, s2, ha, hl, hm⟩
      -- .. the second
      refine ⟨fun σ' H2 => ∃ (a : Addr) (l m : Nat), σ' = [some (.ref nl), some (iV kk), some (.str (sAl al)), some (iV many), some (.ref lp), some (.ref tl), some (iV i), some (.ref a)] ∧ Same H' H2 ∧ H2 a = some (.tup (pV (l, m))) ∧ l < T.length ∧ m < T.length, ?_, ?_⟩
      · have d2 := d0.same s2
        refine ⟨_, rfl, _, rfl, _, rfl, _, _, rfl, rfl, .inl ⟨by decide, by decide⟩, _, _, rfl, rfl, _, _, rfl, rfl, nl, _, _, _, rfl, rfl, SqL.of (rd s2), atN (j := kk + 2 * i + 1) (by omega) (rowV_get hn2), _, _, rfl, rfl, ⟨by decide, by decide⟩, .inl ⟨_, rfl, _, _, rfl, rfl, (by show (0 : Int) < 3; decide), rfl, _, rfl, ?_⟩⟩
        refine ite2 (fun _ => ?_) (fun _ => ⟨a, l, m, rfl, s2, ha, hl, hm⟩)
        obtain ⟨m', em, hm'⟩ := lastIx (n := (n2 : Int)) (t := T.length) (c := 3) hT0 (by decide)
        have mp := min_pos (t := T.length) (c := 3) hT0 (by decide)
        refine ⟨_, rfl, a, _, _, _, rfl, rfl, SqT.of ha, atN (j := 0) rfl rfl, ?_⟩
        refine ⟨_, rfl, tl, _, rfl, .inl (SqL.of d2.tl), _, _, rfl, rfl, _, rfl, _, rfl, _, rfl, _, _, rfl, rfl, .inl ⟨by decide, by decide⟩, _, _, rfl, rfl, _, _, rfl, rfl, nl, _, _, _, rfl, rfl, SqL.of (rd s2), atN (j := kk + 2 * i + 1) (by omega) (rowV_get hn2), .inl ⟨_, rfl, _, rfl, tl, _, rfl, .inl (SqL.of d2.tl), _, _, rfl, _, _, rfl, rfl, by rw [tlen]; exact mp, _, _, rfl, rfl, ?_⟩⟩
        refine ⟨(by show 2 ≤ sizeLine; decide), fun t ht => ?_⟩
        refine ⟨t, l, m', rfl, Same_nn s2 ht, upd_same.trans (congrArg (fun z => some (HO.tup z)) (pV_of rfl ?_)), hl, hm'⟩
        show (((txV al T).length : Nat) : Int) - 1 - (n2 : Int) % (if (((txV al T).length : Nat) : Int) < 3 then (((txV al T).length : Nat) : Int) else 3) = _
        rw [tlen]; exact em
      clear ha hl hm s2
      clear a l m H2
      rintro σ' H2 ⟨a, l, m, rfl, s2, ha, hl, hm⟩
      -- if _law_is_proper(..)
      have d2 := d0.same s2
      refine ⟨_, rfl, _, rfl, _, rfl, _, rfl, tl, lp, a, al, as0, ps, T, l, m, rfl, d2, hA, hT9, ha, hl, hm, fun H3 c s3 hc => ⟨c, rfl, ?_⟩⟩
      have g3 := g.on (s2.trans s3)
      have d3 := d2.same s3
      have ha3 := s3 _ _ ha
      by_cases hcc : c = true
      · obtain ⟨h40, hst⟩ := hc.mp hcc
        subst hcc
        refine iteT ?_
        have las := d3.prs.len
        refine ⟨_, rfl, .inl ⟨rfl, _, SqL.of d3.lp⟩, _, rfl, lp, _, _, rfl, rfl, d3.lp, (by unfold refs; rw [List.length_map]; exact small_lt (by omega)), ?_⟩
        rw [refs_snoc]
        have k4 : Tk H3 (upd H3 lp (.lst (refs (as0 ++ [a])))) := Tk.upd d3.lp (fun _ q => nomatch q)
        have t4 : (upd H3 lp (.lst (refs (as0 ++ [a])))) tl = some (.lst (txV al T)) := by rw [upd_ne g.ne.symm]; exact d3.tl
        refine ⟨_, rfl, .inl ⟨rfl, _, SqL.of t4⟩, _, rfl, _, rfl, a, _, _, _, rfl, rfl, SqT.of (k4 _ _ ha3), atN (j := 0) rfl rfl, tl, _, _, _, rfl, rfl, SqL.of t4, atN (j := l) rfl (txV_get hl), ?_⟩
        refine ⟨_, rfl, _, rfl, a, _, _, _, rfl, rfl, SqT.of (k4 _ _ ha3), atN (j := 1) rfl rfl, tl, _, _, _, rfl, rfl, SqL.of t4, atN (j := m) rfl (txV_get hm), ?_⟩
        rw [List.length_append] at h40
        refine ⟨_, _, rfl, rfl, (by rw [sOf_len, sOf_len]; exact small_line (by omega)), tl, _, _, rfl, rfl, t4, (by rw [txV_len]; exact small_lt (by omega)), ?_⟩
        rw [sOf_app, txV_snoc]
        exact ⟨_, _, _, _, rfl, g3.put d3 ha3 hl hm hst (by rw [List.length_append]; exact h40), by simp; omega⟩
      · have e : c = false := by simpa using hcc
        subst e
        exact iteF ⟨ps, T, _, _, rfl, g3, by omega⟩
    · rintro σ H' ⟨ps, T, v6, v7, rfl, g, hpi⟩
      obtain ⟨as, d⟩ := g.dr
      refine ⟨_, rfl, _, rfl, (by show 2 ≤ sizeLine; decide), fun t ht => ?_⟩
      exact k _ t lp tl as ps T (Same_nn g.same ht) upd_same (d.same (Same_new ht)) (by omega)
end
end RJ

set_option Elab.async false
set_option maxRecDepth 100000
set_option maxHeartbeats 4000000
namespace RJ
open PySem L2
open C8 (pss_cut)
section
variable {P : Program} {w : World} {K : PySem.W.Frag} {mg : Str → Option Value} {base : Heap}
/-! ### _law_chain -/
theorem scChain : FnScope ["_law_numbers_here", "_law_k", "_law_alphabet_here", "_law_many", "_law_pairs", "_law_texts", "_law_last", "_law_j", "_law_seed", "_law_letter", "_law_pair"] ["_law_numbers_here", "_law_k", "_law_alphabet_here", "_law_many"] (defScope sChain) := ⟨rfl, rfl, rfl, by decide +kernel, rfl, by decide +kernel, by decide +kernel⟩
def spChain : L2.Sp := fun vs H Q _ => ∃ (nl : Addr) (ns al : List Nat) (k many : Nat), vs = [.ref nl, iV k, .str (sAl al), iV many] ∧ H nl = some (.lst (rowV ns)) ∧ k + 24 ≤ ns.length ∧ many ≤ 100 ∧ Alph al ∧
  ∀ (H' : Hp) (t lp tl : Addr) (as : List Addr) (ps : List (Nat × Nat)) (T : List (List Nat)), Same H H' → H' t = some (.tup [.ref lp, .ref tl]) → Dr H' lp tl al as ps T → ps.length ≤ many → Q (.ref t) H'
theorem ok_chain {f g : Addr} {fd gd : FuncData} (F : Fun K "_law_chain" "_law_chain" sChain f fd) (B : Bn mg) (CP : Cal K mg "_law_is_proper" sLProper g gd ["_law_alphabet_here", "_law_texts", "_law_pairs", "_law_pair"]) (G : FnOk P w K mg base CX0 3 g gd ["_law_alphabet_here", "_law_texts", "_law_pairs", "_law_pair"] spLProper) :
    FnOk P w K mg base CX0 4 f fd ["_law_numbers_here", "_law_k", "_law_alphabet_here", "_law_many"] spChain := by
  refine F.ok scChain (fun vs H Q E h => ?_) (fun cdv A outer s H vs Q E hr h => ?_)
  · obtain ⟨nl, ns, al, k, many, rfl, _⟩ := h
    rfl
  · obtain ⟨nl, ns, al, kk, many, rfl, hnl, hk, hmany, hA, k⟩ := h
    have hal : (sAl al).cps.size = al.length := rfl
    have hall : (sAl al).length = al.length := rfl
    have hale := hA.le
    have hpos := hA.pos
    refine ⟨_, pss_cons (ps_set (i := 4) scChain.nd rfl (Or.inl rfl) (pe_lst pa_nil)) (pss_cons (ps_set (i := 5) scChain.nd rfl (Or.inl rfl) (pe_callTy (call_listS rfl) (by rfl) B.list b_list (pa_cons (pv 2) pa_nil)))
      (pss_cons (ps_set (i := 6) scChain.nd rfl (Or.inl rfl) pe_int)
      (pss_cons (ps_for PassesOwn.never rfl (pi_range1 (by rfl) B.range (pa_cons (pv 3) pa_nil)) (pg_name (i := 7) scChain.nd rfl (Or.inl rfl))
        (pss_cons (ps_set (i := 8) scChain.nd rfl (Or.inl rfl) (pe_ix ix_list (pv 0) (pe_op op_add (pv 1) (pe_op op_mod (pe_callTy call_int1 (by rfl) B.int b_int (pa_cons (pv 7) pa_nil)) pe_int)) (fun _ _ => rfl)))
        (pss_cons (ps_set (i := 9) scChain.nd rfl (Or.inl rfl) (pe_op op_mod (pe_callTy call_int1 (by rfl) B.int b_int (pa_cons (pe_op op_fdiv (pv 8) (pe_op op_add pe_int (pe_op op_fdiv (pv 7) pe_int))) pa_nil)) (pe_callB call_len_str (by rfl) B.len b_len (pa_cons (pv 2) pa_nil))))
        (pss_cut (ps_set (i := 10) scChain.nd rfl (Or.inl rfl) (pe_ix ix_list (pe_lst (pa_cons (pe_tup (pa_cons (pv 6) (pa_cons (pv 9) pa_nil))) (pa_cons (pe_tup (pa_cons (pv 9) (pa_cons (pv 6) pa_nil))) pa_nil)))
            (pe_op op_mod (pe_callTy call_int1 (by rfl) B.int b_int (pa_cons (pe_op op_fdiv (pv 8) pe_int) pa_nil)) pe_int) (fun _ _ => rfl)))
        (pss_cut (ps_if (pt_cmpR op_eq (pe_callTy call_int1 (by rfl) B.int b_int (pa_cons (pe_op op_fdiv (pe_ix ix_list (pv 0) (pv 1) (fun _ _ => rfl)) pe_int) pa_nil)) pe_int (nomark _))
          (pss_one (ps_set (i := 10) scChain.nd rfl (Or.inl rfl) (pe_tup (pa_cons (pv 6) (pa_cons (pe_op op_sub (pe_callB call_len_str (by rfl) B.len b_len (pa_cons (pv 2) pa_nil)) pe_int) pa_nil))))) pss_nil)
        (pss_one (ps_if (pt_val (pe_call G hr (by rfl) CP.g CP.F.kp CP.b .nil pass0 (pa_cons (pv 2) (pa_cons (pv 5) (pa_cons (pv 4) (pa_cons (pv 10) pa_nil))))))
          (pss_cons (ps_expr (pe_bm PySem.F.plainAttrs_list PySem.F.slot_list_append PySem.F.type_list_append mt_append (pv 4) (pa_cons (pv 10) pa_nil)))
          (pss_cons (ps_expr (pe_bm PySem.F.plainAttrs_list PySem.F.slot_list_append PySem.F.type_list_append mt_append (pv 5) (pa_cons (pe_op op_add_str (pe_ix ix_list (pv 5) (pe_ix ix_tup (pv 10) pe_int (fun _ _ => rfl)) (fun _ _ => rfl)) (pe_ix ix_list (pv 5) (pe_ix ix_tup (pv 10) pe_int (fun _ _ => rfl)) (fun _ _ => rfl))) pa_nil)))
          (pss_one (ps_set (i := 6) scChain.nd rfl (Or.inl rfl) (pe_op op_sub (pe_callB call_len_seq (by rfl) B.len b_len (pa_cons (pv 5) pa_nil)) pe_int))))) pss_nil)))))))
      (pss_one (ps_ret (pe_tup (pa_cons (pv 4) (pa_cons (pv 5) pa_nil)))))))), ?_⟩
    refine ⟨Nat.zero_le _, fun lp hlp => ?_⟩
    have s1 : Same H (upd H lp (.lst [])) := Same_new hlp
    refine ⟨_, rfl, _, rfl, (by rw [hal]; exact small_line (by omega)), fun tl htl => ?_⟩
    rw [txV_start]
    have nlt : lp ≠ tl := ne_of_none upd_same htl
    have ntl : H tl = none := s1.free htl
    have g0 : Grown H (upd (upd H lp (.lst [])) tl (.lst (txV al ((List.range al.length).map fun i => [i])))) lp tl al [] ((List.range al.length).map fun i => [i]) :=
      ⟨Same_put s1 ntl, hlp, ntl, nlt, [], by rw [upd_ne nlt]; exact upd_same, Prs.nil, upd_same, PL.base hpos⟩
    refine ⟨_, rfl, _, rfl, by omega, by omega, for_range (lo := 0) (n := ((many : Nat) : Int).toNat)
      (fun i σ H' => ∃ (ps : List (Nat × Nat)) (T : List (List Nat)) (last : Nat) (v7 v8 v9 v10 : Option V), σ = [some (.ref nl), some (iV kk), some (.str (sAl al)), some (iV many), some (.ref lp), some (.ref tl), some (iV last), v7, v8, v9, v10] ∧ Grown H H' lp tl al ps T ∧ ps.length ≤ i ∧ last < T.length)
      ⟨[], _, 0, none, none, none, none, rfl, g0, Nat.le_refl _, by simp; omega⟩ ?_ ?_⟩
    · rintro i σ H' hi ⟨ps, T, last, v7, v8, v9, v10, rfl, g, hpi, hlast⟩
      have hi : i < many := by omega
      obtain ⟨as0, d0⟩ := g.dr
      have hTl := d0.pl.len
      have hT0 : 0 < T.length := by omega
      have hT9 : T.length ≤ 900 := by omega
      have rd : ∀ {H2 : Hp}, Same H' H2 → H2 nl = some (.lst (rowV ns)) := fun s => (g.same.trans s) _ _ hnl
      have tlen : ((((txV al T).length : Nat) : Int)) = (T.length : Int) := by rw [txV_len]
      obtain ⟨r, er, hr24⟩ := modN (z := (0 + (i : Int))) (t := 24) (by decide)
      obtain ⟨n1, hn1⟩ : ∃ n, ns[kk + r]? = some n := ⟨_, List.getElem?_eq_getElem (by omega)⟩
      obtain ⟨n0, hn0⟩ : ∃ n, ns[kk]? = some n := ⟨_, List.getElem?_eq_getElem (by omega)⟩
      have dv : 0 < (1 : Int) + (0 + (i : Int)) / 24 ∧ (1 : Int) + (0 + (i : Int)) / 24 < 1073741824 := by omega
      obtain ⟨c, ec, hc⟩ := modN (z := (n1 : Int) / (1 + (0 + (i : Int)) / 24)) (t := (al.length : Int)) (by omega)
      have hc : c < al.length := by omega
      -- seed
      refine ⟨_, rfl, _, rfl, _, rfl, .inl ⟨_, rfl, _, _, rfl, rfl, (by show (0 : Int) < 24; decide), _, _, rfl, rfl, nl, _, _, _, rfl, rfl, SqL.of (rd (Same.refl _)), atN (j := kk + r) (by rw [er]; omega) (rowV_get hn1), ?_⟩⟩
      -- letter
      refine ⟨_, rfl, _, rfl, _, _, rfl, rfl, ⟨by decide, by decide⟩, _, _, rfl, rfl, _, _, rfl, rfl, dv, .inl ⟨_, rfl, _, rfl, _, rfl, (by rw [hall]; exact small_line (by omega)), _, _, rfl, rfl, (by rw [hall]; omega), ?_⟩⟩
      have ez : (n1 : Int) / (1 + (0 + (i : Int)) / 24) % (((sAl al).length : Nat) : Int) = (c : Int) := by rw [hall]; exact ec
      -- pair
      refine ⟨fun σ' H2 => ∃ (a : Addr) (l m : Nat) (v7 v8 v9 : Option V), σ' = [some (.ref nl), some (iV kk), some (.str (sAl al)), some (iV many), some (.ref lp), some (.ref tl), some (iV last), v7, v8, v9, some (.ref a)] ∧ Same H' H2 ∧ H2 a = some (.tup (pV (l, m))) ∧ l < T.length ∧ m < T.length, ?_, ?_⟩
      · refine ⟨_, rfl, _, rfl, (by show 2 ≤ sizeLine; decide), fun t1 ht1 => ?_⟩
        refine ⟨_, rfl, _, rfl, (by show 2 ≤ sizeLine; decide), fun t2 ht2 => ?_⟩
        refine ⟨(by show 2 ≤ sizeLine; decide), fun t3 ht3 => ?_⟩
        have sa := Same_new (o := .tup [iV last, V.int ((n1 : Int) / (1 + (0 + (i : Int)) / 24) % (((sAl al).length : Nat) : Int))]) ht1
        have sb := Same_nn (o := .tup [V.int ((n1 : Int) / (1 + (0 + (i : Int)) / 24) % (((sAl al).length : Nat) : Int)), iV last]) sa ht2
        have sc := Same_nn (o := .lst [V.ref t1, V.ref t2]) sb ht3
        have q2 := Same_new (o := .tup [V.int ((n1 : Int) / (1 + (0 + (i : Int)) / 24) % (((sAl al).length : Nat) : Int)), iV last]) ht2
        have q3 := Same_new (o := .lst [V.ref t1, V.ref t2]) ht3
        obtain ⟨b, eb, hb⟩ := modN (z := (n1 : Int) / 30) (t := 2) (by decide)
        refine ⟨_, rfl, _, _, rfl, rfl, ⟨by decide, by decide⟩, .inl ⟨_, rfl, _, _, rfl, rfl, (by show (0 : Int) < 2; decide), ?_⟩⟩
        by_cases b0 : b = 0
        · refine ⟨t3, _, _, _, rfl, rfl, SqL.of upd_same, atN (j := 0) (by show (n1 : Int) / 30 % 2 = _; rw [eb, b0]) rfl, ?_⟩
          exact ⟨t1, last, c, _, _, _, rfl, sc, (q3 _ _ (q2 _ _ upd_same)).trans (congrArg (fun z => some (HO.tup z)) (pV_of rfl ez)), hlast, by omega⟩
        · refine ⟨t3, _, _, _, rfl, rfl, SqL.of upd_same, atN (j := 1) (by show (n1 : Int) / 30 % 2 = _; rw [eb]; omega) rfl, ?_⟩
          exact ⟨t2, c, last, _, _, _, rfl, sc, (q3 _ _ upd_same).trans (congrArg (fun z => some (HO.tup z)) (pV_of ez rfl)), by omega, hlast⟩
      rintro σ' H2 ⟨a, l, m, v7, v8, v9, rfl, s2, ha, hl, hm⟩
      refine ⟨fun σ' H2 => ∃ (a : Addr) (l m : Nat) (v7 v8 v9 : Option V), σ' = [some (.ref nl), some (iV kk), some (.str (sAl al)), some (iV many), some (.ref lp), some (.ref tl), some (iV last), v7, v8, v9, some (.ref a)] ∧ Same H' H2 ∧ H2 a = some (.tup (pV (l, m))) ∧ l < T.length ∧ m < T.length, ?_, ?_⟩
      · refine ⟨_, rfl, _, rfl, nl, _, _, _, rfl, rfl, SqL.of (rd s2), atN (j := kk) rfl (rowV_get hn0), _, _, rfl, rfl, ⟨by decide, by decide⟩, .inl ⟨_, rfl, rfl, _, rfl, ?_⟩⟩
        refine ite2 (fun _ => ?_) (fun _ => ⟨a, l, m, _, _, _, rfl, s2, ha, hl, hm⟩)
        refine ⟨_, rfl, _, rfl, _, rfl, (by rw [hall]; exact small_line (by omega)), _, _, rfl, rfl, (by show 2 ≤ sizeLine; decide), fun t ht => ?_⟩
        refine ⟨t, last, al.length - 1, _, _, _, rfl, Same_nn s2 ht, upd_same.trans (congrArg (fun z => some (HO.tup z)) (pV_of rfl ?_)), hlast, by omega⟩
        show (((sAl al).length : Nat) : Int) - 1 = _
        rw [hall]; omega
      clear ha hl hm s2
      clear a l m H2 v7 v8 v9
      rintro σ' H2 ⟨a, l, m, v7, v8, v9, rfl, s2, ha, hl, hm⟩
      have d2 := d0.same s2
      refine ⟨_, rfl, _, rfl, _, rfl, _, rfl, tl, lp, a, al, as0, ps, T, l, m, rfl, d2, hA, hT9, ha, hl, hm, fun H3 c s3 hc => ⟨c, rfl, ?_⟩⟩
      have g3 := g.on (s2.trans s3)
      have d3 := d2.same s3
      have ha3 := s3 _ _ ha
      by_cases hcc : c = true
      · obtain ⟨h40, hst⟩ := hc.mp hcc
        subst hcc
        refine iteT ?_
        have las := d3.prs.len
        refine ⟨_, rfl, .inl ⟨rfl, _, SqL.of d3.lp⟩, _, rfl, lp, _, _, rfl, rfl, d3.lp, (by unfold refs; rw [List.length_map]; exact small_lt (by omega)), ?_⟩
        rw [refs_snoc]
        have k4 : Tk H3 (upd H3 lp (.lst (refs (as0 ++ [a])))) := Tk.upd d3.lp (fun _ q => nomatch q)
        have t4 : (upd H3 lp (.lst (refs (as0 ++ [a])))) tl = some (.lst (txV al T)) := by rw [upd_ne g.ne.symm]; exact d3.tl
        refine ⟨_, rfl, .inl ⟨rfl, _, SqL.of t4⟩, _, rfl, _, rfl, a, _, _, _, rfl, rfl, SqT.of (k4 _ _ ha3), atN (j := 0) rfl rfl, tl, _, _, _, rfl, rfl, SqL.of t4, atN (j := l) rfl (txV_get hl), ?_⟩
        refine ⟨_, rfl, _, rfl, a, _, _, _, rfl, rfl, SqT.of (k4 _ _ ha3), atN (j := 1) rfl rfl, tl, _, _, _, rfl, rfl, SqL.of t4, atN (j := m) rfl (txV_get hm), ?_⟩
        rw [List.length_append] at h40
        refine ⟨_, _, rfl, rfl, (by rw [sOf_len, sOf_len]; exact small_line (by omega)), tl, _, _, rfl, rfl, t4, (by rw [txV_len]; exact small_lt (by omega)), ?_⟩
        rw [sOf_app, txV_snoc]
        have g5 := g3.put d3 ha3 hl hm hst (by rw [List.length_append]; exact h40)
        refine ⟨_, rfl, tl, _, rfl, .inl (SqL.of upd_same), _, _, rfl, rfl, ?_⟩
        refine ⟨ps ++ [(l, m)], T ++ [tx T l ++ tx T m], T.length, v7, v8, v9, some (.ref a), ?_, g5, by simp; omega, by simp⟩
        show [some (V.ref nl), some (iV kk), some (V.str (sAl al)), some (iV many), some (V.ref lp), some (V.ref tl), some (V.int ((((txV al (T ++ [tx T l ++ tx T m])).length : Nat) : Int) - 1)), v7, v8, v9, some (V.ref a)] = _
        have e : (((txV al (T ++ [tx T l ++ tx T m])).length : Nat) : Int) - 1 = (T.length : Int) := by rw [txV_len, List.length_append, List.length_singleton]; omega
        rw [e]; rfl
      · have e : c = false := by simpa using hcc
        subst e
        exact iteF ⟨ps, T, last, _, _, _, _, rfl, g3, by omega, hlast⟩
    · rintro σ H' ⟨ps, T, last, v7, v8, v9, v10, rfl, g, hpi, _⟩
      obtain ⟨as, d⟩ := g.dr
      refine ⟨_, rfl, _, rfl, (by show 2 ≤ sizeLine; decide), fun t ht => ?_⟩
      exact k _ t lp tl as ps T (Same_nn g.same ht) upd_same (d.same (Same_new ht)) (by omega)
end
end RJ

set_option Elab.async false
set_option maxRecDepth 100000
set_option maxHeartbeats 4000000
namespace RJ
open PySem L2
open C8 (pss_cut)
section
variable {P : Program} {w : World} {K : PySem.W.Frag} {mg : Str → Option Value} {base : Heap}
/-! ### _law_same: equal atoms, equal rows -/
def spSame0 : L2.Sp := fun vs H Q _ => ∃ v : V, vs = [v, v] ∧ (v = .non ∨ (∃ i, v = .int i) ∨ ∃ b, v = .bl b) ∧ Q (.bl true) H
theorem scSame : FnScope ["_law_actual", "_law_expected", "_law_k"] ["_law_actual", "_law_expected"] (defScope sSame) := ⟨rfl, rfl, rfl, by decide +kernel, rfl, by decide +kernel, by decide +kernel⟩
theorem ok_same0 {f : Addr} {fd : FuncData} (F : Fun K "_law_same" "_law_same" sSame f fd) (B : Bn mg) : FnOk P w K mg base CX0 1 f fd ["_law_actual", "_law_expected"] spSame0 := by
  refine F.ok scSame (fun vs H Q E h => ?_) (fun cdv A outer s H vs Q E hr h => ?_)
  · obtain ⟨v, rfl, _⟩ := h
    rfl
  · obtain ⟨v, rfl, hv, k⟩ := h
    refine ⟨_, pss_cons (ps_if (pt_cmpR op_isN (pv 1) pe_non (nomark _)) (pss_one (ps_ret (pe_cmpR op_isN (pv 0) pe_non (nomark _)))) pss_nil)
      (pss_cons (ps_if (pt_val (pe_callB call_isi (by rfl) B.isinstance b_isinstance (pa_cons (pv 1) (pa_cons (pe_bltn (v := .ty "str") (by rfl) B.str b_str rfl) pa_nil)))) pss_never pss_nil)
      (pss_cons (ps_if (pt_val (pe_callB call_isi (by rfl) B.isinstance b_isinstance (pa_cons (pv 1) (pa_cons (pe_bltn (v := .ty "bool") (by rfl) B.bool b_bool rfl) pa_nil))))
          (pss_one (ps_ret (pe_and (pe_callB call_isi (by rfl) B.isinstance b_isinstance (pa_cons (pv 0) (pa_cons (pe_bltn (v := .ty "bool") (by rfl) B.bool b_bool rfl) pa_nil))) (pe_one (pe_cmpR op_eq (pv 0) (pv 1) (nomark _)))))) pss_nil)
      (pss_cons (ps_if (pt_val (pe_callB call_isi (by rfl) B.isinstance b_isinstance (pa_cons (pv 1) (pa_cons (pe_bltn (v := .ty "int") (by rfl) B.int b_int rfl) pa_nil))))
          (pss_one (ps_ret (pe_and (pe_callB call_isi (by rfl) B.isinstance b_isinstance (pa_cons (pv 0) (pa_cons (pe_bltn (v := .ty "int") (by rfl) B.int b_int rfl) pa_nil)))
            (pe_and (pe_not (pe_callB call_isi (by rfl) B.isinstance b_isinstance (pa_cons (pv 0) (pa_cons (pe_bltn (v := .ty "bool") (by rfl) B.bool b_bool rfl) pa_nil)))) (pe_one (pe_cmpR op_eq (pv 0) (pv 1) (nomark _))))))) pss_nil) pss_never))), ?_⟩
    rcases hv with rfl | ⟨i, rfl⟩ | ⟨b, rfl⟩
    · exact ⟨_, rfl, rfl, true, rfl, iteT ⟨_, rfl, rfl, k⟩⟩
    · refine ⟨_, rfl, rfl, false, rfl, iteF ?_⟩
      refine ⟨_, rfl, _, _, _, _, false, rfl, .ty _, .base (.int _), kit_ty (by decide +kernel), false, rfl, iteF ?_⟩
      refine ⟨_, rfl, _, _, _, _, false, rfl, .ty _, .base (.int _), kit_ty (by decide +kernel), false, rfl, iteF ?_⟩
      refine ⟨_, rfl, _, _, _, _, true, rfl, .ty _, .base (.int _), kit_ty (by decide +kernel), true, rfl, iteT ?_⟩
      refine ⟨_, rfl, _, _, _, _, true, rfl, .ty _, .base (.int _), kit_ty (by decide +kernel), true, rfl, iteT ?_⟩
      refine ⟨_, rfl, _, _, _, _, false, rfl, .ty _, .base (.int _), kit_ty (by decide +kernel), false, rfl, true, rfl, iteT ?_⟩
      refine ⟨_, rfl, _, rfl, rfl, ?_⟩
      rw [decide_eq_true rfl]
      exact k
    · refine ⟨_, rfl, rfl, false, rfl, iteF ?_⟩
      refine ⟨_, rfl, _, _, _, _, false, rfl, .ty _, .base (.bl _), kit_ty (by decide +kernel), false, rfl, iteF ?_⟩
      refine ⟨_, rfl, _, _, _, _, true, rfl, .ty _, .base (.bl _), kit_ty (by decide +kernel), true, rfl, iteT ?_⟩
      refine ⟨_, rfl, _, _, _, _, true, rfl, .ty _, .base (.bl _), kit_ty (by decide +kernel), true, rfl, iteT ?_⟩
      refine ⟨_, rfl, _, rfl, rfl, ?_⟩
      rw [decide_eq_true rfl]
      exact k
def spSame1 : L2.Sp := fun vs H Q _ => ∃ (a b : Addr) (l : List Nat), vs = [.ref a, .ref b] ∧ H a = some (.tup (rowV l)) ∧ H b = some (.tup (rowV l)) ∧ l.length ≤ 1000 ∧ Q (.bl true) H
theorem ok_same1 {f : Addr} {fd : FuncData} (C : Cal K mg "_law_same" sSame f fd ["_law_actual", "_law_expected"]) (B : Bn mg) (G : FnOk P w K mg base CX0 1 f fd ["_law_actual", "_law_expected"] spSame0) : FnOk P w K mg base CX0 2 f fd ["_law_actual", "_law_expected"] spSame1 := by
  refine C.F.ok scSame (fun vs H Q E h => ?_) (fun cdv A outer s H vs Q E hr h => ?_)
  · obtain ⟨a, b, l, rfl, _⟩ := h
    rfl
  · obtain ⟨a, b, l, rfl, ha, hb, hlen, k⟩ := h
    refine ⟨_, pss_cons (ps_if (pt_cmpR op_isN (pv 1) pe_non (nomark _)) pss_never pss_nil)
      (pss_cons (ps_if (pt_val (pe_callB call_isi (by rfl) B.isinstance b_isinstance (pa_cons (pv 1) (pa_cons (pe_bltn (v := .ty "str") (by rfl) B.str b_str rfl) pa_nil)))) pss_never pss_nil)
      (pss_cons (ps_if (pt_val (pe_callB call_isi (by rfl) B.isinstance b_isinstance (pa_cons (pv 1) (pa_cons (pe_bltn (v := .ty "bool") (by rfl) B.bool b_bool rfl) pa_nil)))) pss_never pss_nil)
      (pss_cons (ps_if (pt_val (pe_callB call_isi (by rfl) B.isinstance b_isinstance (pa_cons (pv 1) (pa_cons (pe_bltn (v := .ty "int") (by rfl) B.int b_int rfl) pa_nil)))) pss_never pss_nil)
      (pss_cons (ps_if (PW.pt (pw_or (pt_not (pt_val (pe_callB call_isi (by rfl) B.isinstance b_isinstance (pa_cons (pv 0) (pa_cons (pe_bltn (v := .ty "tuple") (by rfl) B.tuple b_tuple rfl) pa_nil)))))
          (pw_or1 (pt_cmpR op_ne (pe_callB call_len_seq (by rfl) B.len b_len (pa_cons (pv 0) pa_nil)) (pe_callB call_len_seq (by rfl) B.len b_len (pa_cons (pv 1) pa_nil)) (nomark _))))) (pss_one (ps_ret pe_bl)) pss_nil)
      (pss_cons (ps_for PassesOwn.never rfl (pi_range1 (by rfl) B.range (pa_cons (pe_callB call_len_seq (by rfl) B.len b_len (pa_cons (pv 1) pa_nil)) pa_nil)) (pg_name (i := 2) scSame.nd rfl (Or.inl rfl))
        (pss_one (ps_if (pt_not (pt_val (pe_call G hr (by rfl) C.g C.F.kp C.b .nil pass0 (pa_cons (pe_ix ix_tup (pv 0) (pv 2) (fun _ _ => rfl)) (pa_cons (pe_ix ix_tup (pv 1) (pv 2) (fun _ _ => rfl)) pa_nil))))) (pss_one (ps_ret pe_bl)) pss_nil)))
      (pss_one (ps_ret pe_bl))))))), ?_⟩
    refine ⟨_, rfl, rfl, false, rfl, iteF ?_⟩
    refine ⟨_, rfl, _, _, _, _, false, rfl, .ty _, .base (.tup hb), kit_ty (by decide +kernel), false, rfl, iteF ?_⟩
    refine ⟨_, rfl, _, _, _, _, false, rfl, .ty _, .base (.tup hb), kit_ty (by decide +kernel), false, rfl, iteF ?_⟩
    refine ⟨_, rfl, _, _, _, _, false, rfl, .ty _, .base (.tup hb), kit_ty (by decide +kernel), false, rfl, iteF ?_⟩
    refine ⟨_, rfl, _, _, _, _, true, rfl, .ty _, .base (.tup ha), kit_ty (by decide +kernel), true, rfl, iteF ?_⟩
    refine ⟨_, rfl, a, _, rfl, .inr (SqT.of ha), _, rfl, b, _, rfl, .inr (SqT.of hb), rfl, false, nblF rfl, iteF ?_⟩
    refine ⟨_, rfl, b, _, rfl, .inr (SqT.of hb), _, rfl, (by rw [rowV_len]; omega), (by rw [rowV_len]; omega), for_range (lo := 0) (n := (((rowV l).length : Nat) : Int).toNat) (fun i σ H' => ∃ v, σ = [some (.ref a), some (.ref b), v] ∧ H' = H) ⟨none, rfl, rfl⟩ ?_ ?_⟩
    · rintro i σ H' hi ⟨v, rfl, rfl⟩
      rw [rowV_len] at hi
      have ex : l[i]? = some l[i] := List.getElem?_eq_getElem (by omega)
      refine ⟨_, rfl, _, rfl, a, _, _, _, rfl, rfl, SqT.of ha, atN (j := i) (by omega) (rowV_get ex), _, rfl, _, rfl, b, _, _, _, rfl, rfl, SqT.of hb, atN (j := i) (by omega) (rowV_get ex), ?_⟩
      exact ⟨_, rfl, .inr (.inl ⟨_, rfl⟩), true, rfl, iteF ⟨_, rfl, rfl⟩⟩
    · rintro σ H' ⟨v, rfl, rfl⟩
      exact k
/-! ### _law_numbers -/
def spNumbers : L2.Sp := fun vs H Q _ => ∃ (cell : Int) (at_ many : Nat), vs = [.int cell, iV at_, iV many] ∧ many ≤ 1000 ∧
  ∀ (H' : Hp) (q : Addr) (ns : List Nat), Same H H' → H' q = some (.lst (rowV ns)) → ns.length = many → Q (.ref q) H'
theorem scNumbers : FnScope ["_law_cell", "_law_at", "_law_many", "_law_great", "_law_rest", "_law_numbers_here", "_law_k", "_law_mixed"] ["_law_cell", "_law_at", "_law_many"] (defScope sNumbers) := ⟨rfl, rfl, rfl, by decide +kernel, rfl, by decide +kernel, by decide +kernel⟩
theorem ok_numbers {f : Addr} {fd : FuncData} (F : Fun K "_law_numbers" "_law_numbers" sNumbers f fd) (B : Bn mg) : FnOk P w K mg base CX0 1 f fd ["_law_cell", "_law_at", "_law_many"] spNumbers := by
  refine F.ok scNumbers (fun vs H Q E h => ?_) (fun cdv A outer s H vs Q E hr h => ?_)
  · obtain ⟨cell, at_, many, rfl, _⟩ := h
    rfl
  · obtain ⟨cell, at_, many, rfl, hmany, k⟩ := h
    refine ⟨_, pss_cons (ps_set (i := 3) scNumbers.nd rfl (Or.inl rfl) (pe_cmpR op_ge (pe_callB call_abs (by rfl) B.abs b_abs (pa_cons (pe_callTy call_int1 (by rfl) B.int b_int (pa_cons (pv 0) pa_nil)) pa_nil)) (pe_op op_pow pe_int pe_int) (nomark _)))
      (pss_cons (ps_set (i := 4) scNumbers.nd rfl (Or.inl rfl) (pe_op op_add (pe_op op_mul pe_int (pe_callB call_abs (by rfl) B.abs b_abs (pa_cons (pe_callTy call_int1 (by rfl) B.int b_int (pa_cons (pv 0) pa_nil)) pa_nil)))
          (pe_callTy call_int1 (by rfl) B.int b_int (pa_cons (pe_cmpR op_lt (pv 0) pe_int (nomark _)) pa_nil))))
      (pss_cons (ps_set (i := 5) scNumbers.nd rfl (Or.inl rfl) (pe_lst pa_nil))
      (pss_cons (ps_for PassesOwn.never rfl (pi_range1 (by rfl) B.range (pa_cons (pv 2) pa_nil)) (pg_name (i := 6) scNumbers.nd rfl (Or.inl rfl))
        (pss_one (ps_if (pt_val (pv 3))
          (pss_cons (ps_expr (pe_bm PySem.F.plainAttrs_list PySem.F.slot_list_append PySem.F.type_list_append mt_append (pv 5) (pa_cons (pe_op op_mod (pe_callTy call_int1 (by rfl) B.int b_int (pa_cons (pv 4) pa_nil)) pe_int) pa_nil)))
          (pss_one (ps_set (i := 4) scNumbers.nd rfl (Or.inl rfl) (pe_op op_fdiv (pv 4) pe_int))))
          (pss_cons (ps_set (i := 7) scNumbers.nd rfl (Or.inl rfl) (pe_op op_mod (pe_callTy call_int1 (by rfl) B.int b_int (pa_cons (pe_op op_add (pe_op op_add (pe_op op_add (pe_op op_mul (pv 4) pe_int) (pe_op op_mul (pv 1) pe_int)) (pe_op op_mul (pv 6) pe_int)) pe_int) pa_nil)) pe_int))
          (pss_cons (ps_set (i := 7) scNumbers.nd rfl (Or.inl rfl) (pe_op op_mod (pe_callTy call_int1 (by rfl) B.int b_int (pa_cons (pe_op op_add (pe_op op_add (pe_op op_mul (pv 7) (pv 7)) (pe_op op_mul (pv 6) pe_int)) pe_int) pa_nil)) pe_int))
          (pss_cons (ps_set (i := 7) scNumbers.nd rfl (Or.inl rfl) (pe_op op_mod (pe_callTy call_int1 (by rfl) B.int b_int (pa_cons (pe_op op_add (pe_op op_add (pe_op op_mul (pv 7) (pv 7)) (pe_op op_mul (pv 1) pe_int)) pe_int) pa_nil)) pe_int))
          (pss_one (ps_expr (pe_bm PySem.F.plainAttrs_list PySem.F.slot_list_append PySem.F.type_list_append mt_append (pv 5) (pa_cons (pe_op op_mod (pe_callTy call_int1 (by rfl) B.int b_int (pa_cons (pe_op op_fdiv (pv 7) pe_int) pa_nil)) pe_int) pa_nil))))))))))
      (pss_one (ps_ret (pv 5)))))), ?_⟩
    have iff_ : ∀ {z : Int} {m : Int}, (0 : Int) < m → m ≤ 18446744073709551616 → (-(2 ^ 64) : Int) < z % m ∧ z % m < 2 ^ 64 := fun {z m} h1 h2 => by
      have a1 := Int.emod_nonneg z (show m ≠ 0 by omega)
      have a2 := Int.emod_lt_of_pos z h1
      omega
    refine ⟨_, rfl, .inl ⟨_, rfl, _, rfl, _, _, rfl, rfl, ⟨by decide, by decide, by decide⟩, _, _, rfl, rfl, ?_⟩⟩
    refine ⟨_, rfl, .inl ⟨_, rfl, _, rfl, _, _, rfl, rfl, .inl ⟨by decide, by decide⟩, _, rfl, _, _, rfl, rfl, .inr ⟨_, rfl, _, _, rfl, rfl, ?_⟩⟩⟩
    refine ⟨Nat.zero_le _, fun l hl => ?_⟩
    refine ⟨_, rfl, _, rfl, by omega, by omega, for_range (lo := 0) (n := ((many : Nat) : Int).toNat)
      (fun i σ H' => ∃ (great : Bool) (rest : Int) (acc : List Nat) (v6 v7 : Option V), σ = [some (.int cell), some (iV at_), some (iV many), some (.bl great), some (.int rest), some (.ref l), v6, v7] ∧ Same H H' ∧ H' l = some (.lst (rowV acc)) ∧ acc.length = i) ⟨_, _, [], none, none, rfl, Same_new hl, upd_same, rfl⟩ ?_ ?_⟩
    · rintro i σ H' hi ⟨great, rest, acc, v6, v7, rfl, sm, hL, hacc⟩
      have app : ∀ {z : Int}, ∃ n : Nat, z % 1000 = (n : Int) := fun {z} => let ⟨n, e, _⟩ := modN (z := z) (t := 1000) (by decide); ⟨n, e⟩
      refine ⟨_, rfl, great, rfl, ?_⟩
      cases great with
      | true =>
        refine iteT ?_
        obtain ⟨n, en⟩ := app (z := rest)
        refine ⟨_, rfl, .inl ⟨rfl, _, SqL.of hL⟩, _, rfl, .inl ⟨_, rfl, _, _, rfl, rfl, (by show (0 : Int) < 1000; decide), l, _, _, rfl, rfl, hL, (by rw [rowV_len]; exact small_lt (by omega)), ?_⟩⟩
        refine ⟨_, rfl, _, _, rfl, rfl, ⟨by decide, by decide⟩, ?_⟩
        refine ⟨true, _, acc ++ [n], _, _, rfl, Same_put sm hl, ?_, by simp [hacc]⟩
        show (upd H' l (.lst (rowV acc ++ [V.int (rest % 1000)]))) l = _
        rw [upd_same, en, ← rowV_snoc]; rfl
      | false =>
        refine iteF ?_
        refine ⟨_, rfl, _, _, rfl, rfl, .inr ⟨by decide, by decide⟩, _, rfl, _, _, rfl, rfl, .inr ⟨by decide, by decide⟩, _, _, rfl, rfl, _, rfl, _, _, rfl, rfl, .inr ⟨by decide, by decide⟩, _, _, rfl, rfl, _, _, rfl, rfl, .inl ⟨_, rfl, _, _, rfl, rfl, (by show (0 : Int) < 2147483647; decide), ?_⟩⟩
        refine ⟨_, rfl, _, rfl, _, _, rfl, rfl, .inl (iff_ (by decide) (by decide)), _, rfl, _, _, rfl, rfl, .inr ⟨by decide, by decide⟩, _, _, rfl, rfl, _, _, rfl, rfl, .inl ⟨_, rfl, _, _, rfl, rfl, (by show (0 : Int) < 2147483629; decide), ?_⟩⟩
        refine ⟨_, rfl, _, rfl, _, _, rfl, rfl, .inl (iff_ (by decide) (by decide)), _, rfl, _, _, rfl, rfl, .inr ⟨by decide, by decide⟩, _, _, rfl, rfl, _, _, rfl, rfl, .inl ⟨_, rfl, _, _, rfl, rfl, (by show (0 : Int) < 2147483587; decide), ?_⟩⟩
        refine ⟨_, rfl, .inl ⟨rfl, _, SqL.of hL⟩, _, rfl, _, _, rfl, rfl, ⟨by decide, by decide⟩, .inl ⟨_, rfl, _, _, rfl, rfl, (by show (0 : Int) < 1000; decide), l, _, _, rfl, rfl, hL, (by rw [rowV_len]; exact small_lt (by omega)), ?_⟩⟩
        have fin : ∀ (z : Int) (v6 v7 : Option V), (∃ n : Nat, z = (n : Int)) → ∃ (great : Bool) (rest' : Int) (acc' : List Nat) (v6' v7' : Option V),
            [some (.int cell), some (iV at_), some (iV many), some (.bl false), some (.int rest), some (.ref l), v6, v7] = [some (.int cell), some (iV at_), some (iV many), some (.bl great), some (.int rest'), some (.ref l), v6', v7'] ∧
            Same H (upd H' l (.lst (rowV acc ++ [V.int z]))) ∧ (upd H' l (.lst (rowV acc ++ [V.int z]))) l = some (.lst (rowV acc')) ∧ acc'.length = i + 1 := fun z v6 v7 ⟨n, e⟩ =>
          ⟨false, rest, acc ++ [n], v6, v7, rfl, Same_put sm hl, by rw [upd_same, e, ← rowV_snoc]; rfl, by simp [hacc]⟩
        exact fin _ _ _ app
    · rintro σ H' ⟨great, rest, acc, v6, v7, rfl, sm, hL, hacc⟩
      exact ⟨_, rfl, k _ l acc sm hL (by omega)⟩
end
end RJ

set_option Elab.async false
set_option maxRecDepth 100000
set_option maxHeartbeats 4000000
namespace RJ
open PySem L2
open C8 (pss_cut)
/-! ### the signs -/
def sg : Str := (" !\"#$&'()*+,-./0123456789:;<=>?@ABCDEFGHIJKLMNOPQRSTUVWXYZ[\\]^_" : Str) ++ ("`abcdefghijklmnopqrstuvwxyz{|}~" : Str)
theorem sg_len : sg.length = 94 := by decide +kernel
theorem sg_all : sg.cps.toList.all (fun c => decide (32 ≤ c) && decide (c ≤ 126)) = true := by decide +kernel
theorem sg_at {j : Nat} (h : j < 94) : ∃ c, sg.cps.toList[j]? = some c ∧ 32 ≤ c ∧ c ≤ 126 := by
  have hl : sg.cps.toList.length = 94 := by have := sg_len; simpa [Str.length] using this
  refine ⟨sg.cps.toList[j], List.getElem?_eq_getElem (by omega), ?_⟩
  have := List.all_eq_true.mp sg_all _ (List.getElem_mem (l := sg.cps.toList) (n := j) (by omega))
  rw [Bool.and_eq_true] at this
  exact ⟨of_decide_eq_true this.1, of_decide_eq_true this.2⟩
def one (c : Nat) : Str := ⟨#[c]⟩
def sgV (cs : List Nat) : List V := cs.map fun c => V.str (one c)
theorem sgV_map (cs : List Nat) : sgV cs = (cs.map one).map V.str := by unfold sgV; rw [List.map_map]; rfl
theorem one_inj {a b : Nat} (h : one a = one b) : a = b := by
  have : (one a).cps.toList = (one b).cps.toList := by rw [h]
  simpa [one] using this
theorem inV_sg {c : Nat} : ∀ cs : List Nat, inV (.str (one c)) (sgV cs) = decide (c ∈ cs)
  | [] => rfl
  | a :: cs => by
    have ih := inV_sg (c := c) cs
    have e : inV (.str (one c)) (sgV (a :: cs)) = (eqV (.str (one a)) (.str (one c)) || inV (.str (one c)) (sgV cs)) := rfl
    rw [e, ih]
    have e2 : eqV (.str (one a)) (.str (one c)) = decide (a = c) := by
      show (one a == one c) = decide (a = c)
      rw [Bool.eq_iff_iff, beq_iff_eq, decide_eq_true_eq]
      exact ⟨one_inj, fun h => by rw [h]⟩
    rw [e2, Bool.eq_iff_iff]
    simp only [Bool.or_eq_true, decide_eq_true_eq, List.mem_cons]
    exact ⟨fun h => h.imp Eq.symm id, fun h => h.imp Eq.symm id⟩
theorem flat_sg : ∀ cs : List Nat, (sgV cs).all flatV = true
  | [] => rfl
  | a :: cs => by
    have ih := flat_sg cs
    show (flatV (.str (one a)) && (sgV cs).all flatV) = true
    rw [ih]; rfl
theorem perm_one {ys : List Str} {cs : List Nat} (h : ys.Perm (cs.map one)) : ∃ al : List Nat, al.Perm cs ∧ ys = al.map one := by
  have e1 : (cs.map one).map (fun s => s.cps.getD 0 0) = cs := by
    rw [List.map_map]
    have : ((fun s : Str => s.cps.getD 0 0) ∘ one) = id := by funext c; rfl
    rw [this, List.map_id]
  refine ⟨ys.map fun s => s.cps.getD 0 0, by have := h.map (fun s : Str => s.cps.getD 0 0); rw [e1] at this; exact this, ?_⟩
  rw [List.map_map]
  have aux : ∀ l : List Str, (∀ y ∈ l, ∃ c, y = one c) → l = l.map (one ∘ fun s => s.cps.getD 0 0) := fun l => by
    induction l with
    | nil => intro _; rfl
    | cons y r ih =>
      intro hy
      obtain ⟨c, e⟩ := hy y (by simp)
      rw [List.map_cons, ← ih fun z hz => hy z (by simp [hz])]
      subst e; rfl
  refine aux ys fun y hy => ?_
  obtain ⟨c, _, e⟩ := List.mem_map.mp (h.mem_iff.mp hy)
  exact ⟨c, e.symm⟩
theorem rising_one {p x : Nat} {r : List Nat} (h : PyProof.Rows.risingS (one p) ((x :: r).map one) = true) : p ≤ x ∧ PyProof.Rows.risingS (one x) (r.map one) = true := by
  have h' : (!PySem.Spec.ltCps [x] [p] && PyProof.Rows.risingS (one x) (r.map one)) = true := h
  rw [Bool.and_eq_true] at h'
  refine ⟨?_, h'.2⟩
  have h1 := h'.1
  by_cases c : p ≤ x
  · exact c
  · have : PySem.Spec.ltCps [x] [p] = true := by
      show (decide (x < p) || (x == p && PySem.Spec.ltCps [] [])) = true
      rw [decide_eq_true (by omega)]; rfl
    rw [this] at h1; cases h1
theorem asc_of : ∀ (r : List Nat) (p : Nat), PyProof.Rows.risingS (one p) (r.map one) = true → (p :: r).Nodup → ∀ i, i + 1 < (p :: r).length → (p :: r).getD i 0 < (p :: r).getD (i + 1) 0
  | [], p, _, _, i, hi => by simp at hi
  | x :: r, p, h, hn, i, hi => by
    obtain ⟨h1, h2⟩ := rising_one h
    obtain ⟨n1, n2⟩ := List.nodup_cons.mp hn
    cases i with
    | zero =>
      have : p ≠ x := fun e => n1 (by rw [e]; simp)
      show p < x
      omega
    | succ i => exact asc_of r x h2 n2 i (by simpa using hi)
theorem join_one (al : List Nat) : Txt.join ("" : Str) (al.map one) = sAl al := by
  have e : ("" : Str) = SX.S [] := by decide +kernel
  have e2 : al.map one = (al.map fun c => [c]).map SX.S := by rw [List.map_map]; rfl
  rw [e, e2, SX.join_S]
  have aux : ∀ l : List Nat, TL.joinL [] (l.map fun c => [c]) = l := fun l => by
    induction l with
    | nil => rfl
    | cons a r ih =>
      cases r with
      | nil => rfl
      | cons b r =>
        show [a] ++ ([] ++ TL.joinL [] ((b :: r).map fun c => [c])) = a :: b :: r
        rw [ih]; rfl
  rw [aux]; rfl
section
variable {P : Program} {w : World} {K : PySem.W.Frag} {mg : Str → Option Value} {base : Heap}
/-! ### _law_alphabet -/
def spAlph : L2.Sp := fun vs H Q _ => ∃ (nl : Addr) (ns : List Nat) (k many : Nat), vs = [.ref nl, iV k, iV many] ∧ H nl = some (.lst (rowV ns)) ∧ 1 ≤ many ∧ many ≤ 30 ∧ k + many ≤ ns.length ∧
  ∀ (H' : Hp) (al : List Nat), Same H H' → Alph al → Q (.str (sAl al)) H'
theorem scAlph : FnScope ["_law_numbers_here", "_law_k", "_law_many", "_law_signs", "_law_chosen", "_law_j", "_law_sign"] ["_law_numbers_here", "_law_k", "_law_many"] (defScope sAlph) := ⟨rfl, rfl, rfl, by decide +kernel, rfl, by decide +kernel, by decide +kernel⟩
theorem ok_alph {f : Addr} {fd : FuncData} (F : Fun K "_law_alphabet" "_law_alphabet" sAlph f fd) (B : Bn mg) : FnOk P w K mg base CX0 1 f fd ["_law_numbers_here", "_law_k", "_law_many"] spAlph := by
  refine F.ok scAlph (fun vs H Q E h => ?_) (fun cdv A outer s H vs Q E hr h => ?_)
  · obtain ⟨nl, ns, k, many, rfl, _⟩ := h
    rfl
  · obtain ⟨nl, ns, kk, many, rfl, hnl, h1, h30, hk, k⟩ := h
    refine ⟨_, pss_cons (ps_set (i := 3) scAlph.nd rfl (Or.inl rfl) pe_str) (pss_cons (ps_set (i := 3) scAlph.nd rfl (Or.inl rfl) (pe_op op_add_str (pv 3) pe_str))
      (pss_cons (ps_set (i := 4) scAlph.nd rfl (Or.inl rfl) (pe_lst pa_nil))
      (pss_cons (ps_for PassesOwn.never rfl (pi_range1 (by rfl) B.range (pa_cons (pv 2) pa_nil)) (pg_name (i := 5) scAlph.nd rfl (Or.inl rfl))
        (pss_cons (ps_set (i := 6) scAlph.nd rfl (Or.inl rfl) (pe_ix ix_str (pv 3) (pe_op op_mod (pe_callTy call_int1 (by rfl) B.int b_int (pa_cons (pe_ix ix_list (pv 0) (pe_op op_add (pv 1) (pv 5)) (fun _ _ => rfl)) pa_nil)) (pe_callB call_len_str (by rfl) B.len b_len (pa_cons (pv 3) pa_nil))) (fun _ _ => rfl)))
        (pss_one (ps_if (pt_cmpR op_notIn_seq (pv 6) (pv 4) rfl) (pss_one (ps_expr (pe_bm PySem.F.plainAttrs_list PySem.F.slot_list_append PySem.F.type_list_append mt_append (pv 4) (pa_cons (pv 6) pa_nil)))) pss_nil))))
      (pss_one (ps_ret (pe_join pe_str (pe_callB cr_sortedS (by rfl) B.sorted b_sorted (pa_cons (pv 4) pa_nil)))))))), ?_⟩
    have sgl : sg.length ≤ sizeLine := by rw [sg_len]; exact small_line (by decide)
    refine ⟨_, rfl, _, _, rfl, rfl, (by rw [sizeLine_eq]; decide +kernel), Nat.zero_le _, fun l hl => ?_⟩
    refine ⟨_, rfl, _, rfl, by omega, by omega, for_range (lo := 0) (n := ((many : Nat) : Int).toNat)
      (fun i σ H' => ∃ (cs : List Nat) (v5 v6 : Option V), σ = [some (.ref nl), some (iV kk), some (iV many), some (.str sg), some (.ref l), v5, v6] ∧ Same H H' ∧ H' l = some (.lst (sgV cs)) ∧ cs.Nodup ∧ (∀ c ∈ cs, 32 ≤ c ∧ c ≤ 126) ∧ cs.length ≤ i ∧ (0 < i → cs ≠ []))
      ⟨[], none, none, rfl, Same_new hl, upd_same, List.nodup_nil, fun c hc => by simp at hc, Nat.le_refl _, fun h => by omega⟩ ?_ ?_⟩
    · rintro i σ H' hi ⟨cs, v5, v6, rfl, sm, hL, hnd, hb, hci, hne⟩
      have hi : i < many := by omega
      obtain ⟨n1, hn1⟩ : ∃ n, ns[kk + i]? = some n := ⟨_, List.getElem?_eq_getElem (by omega)⟩
      obtain ⟨j, ej, hj⟩ := modN (z := (n1 : Int)) (t := ((sg.length : Nat) : Int)) (by rw [sg_len]; decide)
      rw [sg_len] at hj
      obtain ⟨c, hc, hc1, hc2⟩ := sg_at (j := j) (by omega)
      refine ⟨_, rfl, _, rfl, _, rfl, _, rfl, _, _, rfl, rfl, nl, _, _, _, rfl, rfl, SqL.of (sm _ _ hnl), atN (j := kk + i) (by omega) (rowV_get hn1), .inl ⟨_, rfl, _, rfl, sg, rfl, sgl, _, _, rfl, rfl, (by rw [sg_len]; show (0 : Int) < ((94 : Nat) : Int); decide), sg, _, c, rfl, rfl, sgl, atN (j := j) ej hc, ?_⟩⟩
      refine ⟨_, rfl, _, rfl, l, _, rfl, .inl (SqL.of hL), rfl, flat_sg cs, _, rfl, ?_⟩
      show if (!inV (.str (one c)) (sgV cs)) = true then _ else _
      rw [inV_sg]
      by_cases hm : c ∈ cs
      · rw [decide_eq_true hm]
        exact iteF ⟨cs, _, _, rfl, sm, hL, hnd, hb, by omega, fun _ z => by rw [z] at hm; simp at hm⟩
      · rw [decide_eq_false hm]
        refine iteT ⟨_, rfl, .inl ⟨rfl, _, SqL.of hL⟩, _, rfl, l, _, _, rfl, rfl, hL, (by unfold sgV; rw [List.length_map]; exact small_lt (by omega)), ?_⟩
        refine ⟨cs ++ [c], _, _, rfl, Same_put sm hl, ?_, nd_snoc hnd hm, fun x hx => ?_, by simp; omega, fun _ => by simp⟩
        · rw [upd_same]; unfold sgV; rw [List.map_append]; rfl
        · rcases List.mem_append.mp hx with z | z
          · exact hb x z
          · rw [List.mem_singleton] at z; subst z; exact ⟨hc1, hc2⟩
    · rintro σ H' ⟨cs, v5, v6, rfl, sm, hL, hnd, hb, hci, hne⟩
      have hne := hne (by omega)
      have hci : cs.length ≤ 30 := by omega
      refine ⟨⟨_, rfl⟩, _, rfl, l, cs.map one, rfl, (by rw [← sgV_map]; exact SqL.of hL), by rw [List.length_map]; omega, fun ys p hp hs hfree => ?_⟩
      obtain ⟨al, hperm, rfl⟩ := perm_one hp
      have hlen := hperm.length_eq
      refine ⟨_, p, al.map one, rfl, rfl, .inl (SqL.of upd_same), ?_, ?_⟩
      · have e : ((al.map one).map (·.length)).sum = al.length := by
          rw [List.map_map]
          have aux : ∀ l : List Nat, (l.map ((fun s : Str => s.length) ∘ one)).sum = l.length := fun l => by
            induction l with
            | nil => rfl
            | cons a r ih => rw [List.map_cons, List.sum_cons, ih, List.length_cons]; show 1 + r.length = _; omega
          exact aux al
        rw [e, List.length_map]
        have e0 : (("" : Str)).length = 0 := by decide +kernel
        rw [e0]; omega
      rw [join_one]
      refine k _ al (Same_nn sm hfree) ⟨?_, by omega, fun c hc => hb c (hperm.mem_iff.mp hc), ?_⟩
      · have : 0 < cs.length := List.length_pos_iff.mpr hne
        omega
      · have hnd2 : al.Nodup := hperm.nodup_iff.mpr hnd
        cases al with
        | nil => intro i hi; simp at hi
        | cons p0 r => exact asc_of r p0 hs hnd2
end
end RJ

set_option Elab.async false
set_option maxRecDepth 100000
set_option maxHeartbeats 4000000
namespace RJ
open PySem L2
open C8 (pss_cut)
section
variable {P : Program} {w : World} {K : PySem.W.Frag} {mg : Str → Option Value} {base : Heap} {C : Addr}
/-- the menu of alphabets' sizes -/
theorem menu {e : Int} (h0 : 0 ≤ e) (h1 : e < 30) {j : Nat} (hj : j < 8) : ∃ many : Nat, ([V.int 1, V.int 2, V.int 3, V.int 2, V.int 3, V.int 4, V.int 2, V.int (1 + e)] : List V)[j]? = some (iV many) ∧ 1 ≤ many ∧ many ≤ 30 := by
  match j, hj with
  | 0, _ => exact ⟨1, rfl, by omega, by omega⟩
  | 1, _ => exact ⟨2, rfl, by omega, by omega⟩
  | 2, _ => exact ⟨3, rfl, by omega, by omega⟩
  | 3, _ => exact ⟨2, rfl, by omega, by omega⟩
  | 4, _ => exact ⟨3, rfl, by omega, by omega⟩
  | 5, _ => exact ⟨4, rfl, by omega, by omega⟩
  | 6, _ => exact ⟨2, rfl, by omega, by omega⟩
  | 7, _ =>
    refine ⟨(1 + e).toNat, ?_, by omega, by omega⟩
    show some (V.int (1 + e)) = some (V.int (((1 + e).toNat : Nat) : Int))
    rw [show (((1 + e).toNat : Nat) : Int) = 1 + e by omega]
  | j + 8, h => omega
def spLaw (K : PySem.W.Frag) : L2.Sp := fun vs H Q _ => ∃ (a : Addr) (ns : List Int), vs = [.ref a] ∧ SqL K H a (ns.map V.int) ∧ ns.length ≤ 63 ∧ ∀ H', Q (.bl true) H'
theorem scLaw : FnScope ["_law_script", "_law_at", "_law_numbers_here", "_law_alphabet_here", "_law_drawn", "_law_pairs", "_law_texts", "_law_joins", "_law_k", "_law_left", "_law_right", "_law_text", "_law_row", "_law_due"] ["_law_script"] (defScope sLaw) := ⟨rfl, rfl, rfl, by decide +kernel, rfl, by decide +kernel, by decide +kernel⟩
/-- what the law calls -/
structure Calls (P : Program) (w : World) (K : PySem.W.Frag) (mg : Str → Option Value) (base : Heap) (C fN fA fL fH fI fS fE fF fM fC fD fT : Addr) (dN dA dL dH dI dS dE dF dM dC dD dT : FuncData) : Prop where
  cN : Cal K mg "_law_numbers" sNumbers fN dN ["_law_cell", "_law_at", "_law_many"]
  gN : FnOk P w K mg base CX0 1 fN dN ["_law_cell", "_law_at", "_law_many"] spNumbers
  cA : Cal K mg "_law_alphabet" sAlph fA dA ["_law_numbers_here", "_law_k", "_law_many"]
  gA : FnOk P w K mg base CX0 1 fA dA ["_law_numbers_here", "_law_k", "_law_many"] spAlph
  cL : Cal K mg "_law_list" sList fL dL ["_law_numbers_here", "_law_k", "_law_alphabet_here", "_law_many"]
  gL : FnOk P w K mg base CX0 4 fL dL ["_law_numbers_here", "_law_k", "_law_alphabet_here", "_law_many"] spList
  cH : Cal K mg "_law_chain" sChain fH dH ["_law_numbers_here", "_law_k", "_law_alphabet_here", "_law_many"]
  gH : FnOk P w K mg base CX0 4 fH dH ["_law_numbers_here", "_law_k", "_law_alphabet_here", "_law_many"] spChain
  mI : Mk K C fI
  bI : Binds K dI ["self", "alphabet", "pairs"] []
  gI : FnOk P w K mg base CX0 5 fI dI ["self", "alphabet", "pairs"] (spInit C)
  cS : Cal K mg "_law_staged" sStaged fS dS ["_law_many", "_law_pairs", "_law_row"]
  gS : FnOk P w K mg base CX0 2 fS dS ["_law_many", "_law_pairs", "_law_row"] spStaged
  cE : Cal K mg "_law_letters" sLLetters fE dE ["_law_alphabet_here", "_law_text"]
  gE : FnOk P w K mg base CX0 1 fE dE ["_law_alphabet_here", "_law_text"] spLLetters
  cF : Cal K mg "_law_first_cross" sFirst fF dF ["_law_alphabet_here", "_law_pairs", "_law_texts", "_law_left", "_law_right"]
  gF : FnOk P w K mg base CX0 2 fF dF ["_law_alphabet_here", "_law_pairs", "_law_texts", "_law_left", "_law_right"] spFirst
  cM : Cal K mg "_law_same" sSame fM dM ["_law_actual", "_law_expected"]
  gM0 : FnOk P w K mg base CX0 1 fM dM ["_law_actual", "_law_expected"] spSame0
  gM1 : FnOk P w K mg base CX0 2 fM dM ["_law_actual", "_law_expected"] spSame1
  cC : Cal K mg "crossing" sCross fC dC ["joins", "left", "right"]
  gC : FnOk P w K mg base CX0 6 fC dC ["joins", "left", "right"] (spCross C)
  cD : Cal K mg "side_by_side" sSide fD dD ["joins", "left", "right"]
  gD : FnOk P w K mg base CX0 7 fD dD ["joins", "left", "right"] (spSide C)
  cT : Cal K mg "cut" sCut fT dT ["joins", "text"]
  gT : FnOk P w K mg base CX0 3 fT dT ["joins", "text"] (spCut C)
set_option maxHeartbeats 16000000 in
theorem ok_law {fN fA fL fH fI fS fE fF fM fC fD fT f : Addr} {dN dA dL dH dI dS dE dF dM dC dD dT fd : FuncData} (F : Fun K "law" "law" sLaw f fd) (T : Txt K mg C) (B : Bn mg)
    (X : Calls P w K mg base C fN fA fL fH fI fS fE fF fM fC fD fT dN dA dL dH dI dS dE dF dM dC dD dT) : FnOk P w K mg base CX0 8 f fd ["_law_script"] (spLaw K) := by
  refine F.ok scLaw (fun vs H Q E h => ?_) (fun cdv A outer s H vs Q E hr h => ?_)
  · obtain ⟨a, ns, rfl, _⟩ := h
    rfl
  · obtain ⟨sc, zs, rfl, hS, hlen, k⟩ := h
    have hr1 : Room 1 _ := hr.mono (by decide)
    have hr2 : Room 2 _ := hr.mono (by decide)
    have hr3 : Room 3 _ := hr.mono (by decide)
    have hr4 : Room 4 _ := hr.mono (by decide)
    have hr6 : Room 6 _ := hr.mono (by decide)
    refine ⟨_, pss_cons (ps_for PassesOwn.never rfl (pi_range1 (by rfl) B.range (pa_cons (pe_callB (call_min2 rfl) (by rfl) B.min b_min (pa_cons (pe_callB call_len_seq (by rfl) B.len b_len (pa_cons (pv 0) pa_nil)) (pa_cons pe_int pa_nil))) pa_nil)) (pg_name (i := 1) scLaw.nd rfl (Or.inl rfl))
      (pss_cons (ps_set (i := 2) scLaw.nd rfl (Or.inl rfl) (pe_call X.gN hr1 (by rfl) X.cN.g X.cN.F.kp X.cN.b .nil pass0 (pa_cons (pe_ix ix_list (pv 0) (pv 1) (fun _ _ => rfl)) (pa_cons (pv 1) (pa_cons pe_int pa_nil)))))
      (pss_cons (ps_set (i := 3) scLaw.nd rfl (Or.inl rfl) (pe_call X.gA hr1 (by rfl) X.cA.g X.cA.F.kp X.cA.b .nil pass0 (pa_cons (pv 2) (pa_cons pe_int (pa_cons
          (pe_ix ix_list (pe_lst (pa_cons pe_int (pa_cons pe_int (pa_cons pe_int (pa_cons pe_int (pa_cons pe_int (pa_cons pe_int (pa_cons pe_int (pa_cons (pe_op op_add pe_int (pe_op op_mod (pe_callTy call_int1 (by rfl) B.int b_int (pa_cons (pe_ix ix_list (pv 2) pe_int (fun _ _ => rfl)) pa_nil)) pe_int)) pa_nil)))))))))
            (pe_op op_mod (pe_callTy call_int1 (by rfl) B.int b_int (pa_cons (pe_ix ix_list (pv 2) pe_int (fun _ _ => rfl)) pa_nil)) pe_int) (fun _ _ => rfl)) pa_nil)))))
      (pss_cons (ps_set (i := 4) scLaw.nd rfl (Or.inl rfl) (pe_call X.gL hr4 (by rfl) X.cL.g X.cL.F.kp X.cL.b .nil pass0 (pa_cons (pv 2) (pa_cons pe_int (pa_cons (pv 3) (pa_cons (pe_op op_mod (pe_callTy call_int1 (by rfl) B.int b_int (pa_cons (pe_ix ix_list (pv 2) pe_int (fun _ _ => rfl)) pa_nil)) pe_int) pa_nil))))))
      (pss_cut (ps_if (pt_cmpR op_eq (pe_op op_mod (pe_callTy call_int1 (by rfl) B.int b_int (pa_cons (pe_ix ix_list (pv 2) pe_int (fun _ _ => rfl)) pa_nil)) pe_int) pe_int (nomark _))
          (pss_one (ps_set (i := 4) scLaw.nd rfl (Or.inl rfl) (pe_call X.gH hr4 (by rfl) X.cH.g X.cH.F.kp X.cH.b .nil pass0 (pa_cons (pv 2) (pa_cons pe_int (pa_cons (pv 3) (pa_cons (pe_op op_mod (pe_callTy call_int1 (by rfl) B.int b_int (pa_cons (pe_ix ix_list (pv 2) pe_int (fun _ _ => rfl)) pa_nil)) pe_int) pa_nil))))))) pss_nil)
      (pss_cons (ps_set (i := 5) scLaw.nd rfl (Or.inl rfl) (pe_ix ix_tup (pv 4) pe_int (fun _ _ => rfl)))
      (pss_cons (ps_set (i := 6) scLaw.nd rfl (Or.inl rfl) (pe_ix ix_tup (pv 4) pe_int (fun _ _ => rfl)))
      (pss_cons (ps_set (i := 7) scLaw.nd rfl (Or.inl rfl) (pe_make X.mI X.gI hr6 (by rfl) T.gC X.bI .nil pass0 (pa_cons (pv 3) (pa_cons (pe_callTy call_tuple_of (by rfl) B.tuple b_tuple (pa_cons (pv 5) pa_nil)) pa_nil))))
      (pss_one (ps_for PassesOwn.never rfl (pi_range1 (by rfl) B.range (pa_cons pe_int pa_nil)) (pg_name (i := 8) scLaw.nd rfl (Or.inl rfl))
        (pss_cut (ps_set (i := 9) scLaw.nd rfl (Or.inl rfl) (pe_op op_mod (pe_callTy call_int1 (by rfl) B.int b_int (pa_cons (pe_ix ix_list (pv 2) (pe_op op_add pe_int (pe_op op_mul pe_int (pv 8))) (fun _ _ => rfl)) pa_nil)) (pe_callB call_len_seq (by rfl) B.len b_len (pa_cons (pv 6) pa_nil))))
        (pss_cut (ps_set (i := 10) scLaw.nd rfl (Or.inl rfl) (pe_op op_mod (pe_callTy call_int1 (by rfl) B.int b_int (pa_cons (pe_ix ix_list (pv 2) (pe_op op_add pe_int (pe_op op_mul pe_int (pv 8))) (fun _ _ => rfl)) pa_nil)) (pe_callB call_len_seq (by rfl) B.len b_len (pa_cons (pv 6) pa_nil))))
        (pss_cut (ps_if (pt_cmpR op_eq (pe_op op_mod (pe_callTy call_int1 (by rfl) B.int b_int (pa_cons (pe_op op_fdiv (pe_ix ix_list (pv 2) (pe_op op_add pe_int (pe_op op_mul pe_int (pv 8))) (fun _ _ => rfl)) pe_int) pa_nil)) pe_int) pe_int (nomark _))
            (pss_one (ps_set (i := 9) scLaw.nd rfl (Or.inl rfl) (pe_op op_sub (pe_op op_sub (pe_callB call_len_seq (by rfl) B.len b_len (pa_cons (pv 6) pa_nil)) pe_int) (pe_op op_mod (pe_callTy call_int1 (by rfl) B.int b_int (pa_cons (pe_ix ix_list (pv 2) (pe_op op_add pe_int (pe_op op_mul pe_int (pv 8))) (fun _ _ => rfl)) pa_nil)) (pe_callB (call_min2 rfl) (by rfl) B.min b_min (pa_cons pe_int (pa_cons (pe_callB call_len_seq (by rfl) B.len b_len (pa_cons (pv 6) pa_nil)) pa_nil))))))) pss_nil)
        (pss_cut (ps_if (pt_cmpR op_eq (pe_op op_mod (pe_callTy call_int1 (by rfl) B.int b_int (pa_cons (pe_op op_fdiv (pe_ix ix_list (pv 2) (pe_op op_add pe_int (pe_op op_mul pe_int (pv 8))) (fun _ _ => rfl)) pe_int) pa_nil)) pe_int) pe_int (nomark _))
            (pss_one (ps_set (i := 10) scLaw.nd rfl (Or.inl rfl) (pe_op op_sub (pe_op op_sub (pe_callB call_len_seq (by rfl) B.len b_len (pa_cons (pv 6) pa_nil)) pe_int) (pe_op op_mod (pe_callTy call_int1 (by rfl) B.int b_int (pa_cons (pe_ix ix_list (pv 2) (pe_op op_add pe_int (pe_op op_mul pe_int (pv 8))) (fun _ _ => rfl)) pa_nil)) (pe_callB (call_min2 rfl) (by rfl) B.min b_min (pa_cons pe_int (pa_cons (pe_callB call_len_seq (by rfl) B.len b_len (pa_cons (pv 6) pa_nil)) pa_nil))))))) pss_nil)
        (pss_cons (ps_set (i := 11) scLaw.nd rfl (Or.inl rfl) (pe_op op_add_str (pe_ix ix_list (pv 6) (pv 9) (fun _ _ => rfl)) (pe_ix ix_list (pv 6) (pv 10) (fun _ _ => rfl))))
        (pss_cons (ps_set (i := 12) scLaw.nd rfl (Or.inl rfl) (pe_callTy call_tuple_of (by rfl) B.tuple b_tuple (pa_cons (pe_call X.gS hr2 (by rfl) X.cS.g X.cS.F.kp X.cS.b .nil pass0 (pa_cons (pe_callB call_len_str (by rfl) B.len b_len (pa_cons (pv 3) pa_nil)) (pa_cons (pv 5) (pa_cons (pe_call X.gE hr1 (by rfl) X.cE.g X.cE.F.kp X.cE.b .nil pass0 (pa_cons (pv 3) (pa_cons (pv 11) pa_nil))) pa_nil)))) pa_nil)))
        (pss_cons (ps_set (i := 13) scLaw.nd rfl (Or.inl rfl) (pe_call X.gF hr2 (by rfl) X.cF.g X.cF.F.kp X.cF.b .nil pass0 (pa_cons (pv 3) (pa_cons (pv 5) (pa_cons (pv 6) (pa_cons (pv 9) (pa_cons (pv 10) pa_nil)))))))
        (pss_cons (ps_if (pt_not (pt_val (pe_call X.gM0 hr1 (by rfl) X.cM.g X.cM.F.kp X.cM.b .nil pass0 (pa_cons (pe_call X.gC hr6 (by rfl) X.cC.g X.cC.F.kp X.cC.b .nil pass0 (pa_cons (pv 7) (pa_cons (pv 9) (pa_cons (pv 10) pa_nil)))) (pa_cons (pv 13) pa_nil))))) (pss_one (ps_ret pe_bl)) pss_nil)
        (pss_cons (ps_if (pt_not (pt_val (pe_call X.gM0 hr1 (by rfl) X.cM.g X.cM.F.kp X.cM.b .nil pass0 (pa_cons (pe_call X.gD hr (by rfl) X.cD.g X.cD.F.kp X.cD.b .nil pass0 (pa_cons (pv 7) (pa_cons (pv 9) (pa_cons (pv 10) pa_nil)))) (pa_cons (pe_cmpR (op_eqD hr.units) (pv 12) (pe_tup (pa_cons (pv 9) (pa_cons (pv 10) pa_nil))) (nomark _)) pa_nil))))) (pss_one (ps_ret pe_bl)) pss_nil)
        (pss_one (ps_if (pt_not (pt_val (pe_call X.gM1 hr2 (by rfl) X.cM.g X.cM.F.kp X.cM.b .nil pass0 (pa_cons (pe_call X.gT hr3 (by rfl) X.cT.g X.cT.F.kp X.cT.b .nil pass0 (pa_cons (pv 7) (pa_cons (pv 11) pa_nil))) (pa_cons (pv 12) pa_nil))))) (pss_one (ps_ret pe_bl)) pss_nil)))))))))))))))))))))
      (pss_one (ps_ret pe_bl)), ?_⟩
    have lz : ((zs.map V.int).length : Nat) = zs.length := List.length_map ..
    refine ⟨_, rfl, sc, _, rfl, .inl hS, _, _, rfl, _, rfl, ?_, ?_, for_range (lo := 0) (n := (if (5 : Int) < (((zs.map V.int).length : Nat) : Int) then (5 : Int) else (((zs.map V.int).length : Nat) : Int)).toNat)
      (fun i σ H' => ∃ v1 v2 v3 v4 v5 v6 v7 v8 v9 v10 v11 v12 v13 : Option V, σ = [some (.ref sc), v1, v2, v3, v4, v5, v6, v7, v8, v9, v10, v11, v12, v13] ∧ Same H H')
      ⟨_, _, _, _, _, _, _, _, _, _, _, _, _, rfl, Same.refl _⟩ ?_ ?_⟩
    · rw [lz]; split <;> omega
    · rw [lz]; split <;> omega
    · rintro i σ H0 hi ⟨v1, v2, v3, v4, v5, v6, v7, v8, v9, v10, v11, v12, v13, rfl, s0⟩
      have hi : i < zs.length ∧ i < 5 := by rw [lz] at hi; split at hi <;> omega
      obtain ⟨z, hz⟩ : ∃ z, zs[i]? = some z := ⟨_, List.getElem?_eq_getElem hi.1⟩
      have hzv : (zs.map V.int)[i]? = some (V.int z) := by rw [List.getElem?_map, hz]; rfl
      -- numbers
      refine ⟨_, rfl, _, rfl, sc, _, _, _, rfl, rfl, s0.seq hS, atN (j := i) (by omega) hzv, _, rfl, z, i, 98, (by rw [Int.zero_add]; rfl), by omega, fun H1 nl ns s1 hnl hns => ?_⟩
      obtain ⟨n0, hn0⟩ : ∃ n, ns[0]? = some n := ⟨_, List.getElem?_eq_getElem (by omega)⟩
      obtain ⟨n1, hn1⟩ : ∃ n, ns[1]? = some n := ⟨_, List.getElem?_eq_getElem (by omega)⟩
      obtain ⟨n2, hn2⟩ : ∃ n, ns[2]? = some n := ⟨_, List.getElem?_eq_getElem (by omega)⟩
      obtain ⟨n3, hn3⟩ : ∃ n, ns[3]? = some n := ⟨_, List.getElem?_eq_getElem (by omega)⟩
      -- alphabet
      obtain ⟨j, ej, hj⟩ := modN (z := (n0 : Int)) (t := 8) (by decide)
      obtain ⟨many, em, hm1, hm30⟩ := menu (e := (n1 : Int) % 30) (Int.emod_nonneg _ (by decide)) (Int.emod_lt_of_pos _ (by decide)) (j := j) (by omega)
      refine ⟨_, rfl, _, rfl, nl, _, _, _, rfl, rfl, SqL.of hnl, atN (j := 1) rfl (rowV_get hn1), .inl ⟨_, rfl, _, _, rfl, rfl, (by show (0 : Int) < 30; decide), _, _, rfl, rfl, (by show 8 ≤ sizeLine; exact small_line (by decide)), fun t0 ht0 => ?_⟩⟩
      have hnl0 := Same_new (o := .lst [V.int 1, V.int 2, V.int 3, V.int 2, V.int 3, V.int 4, V.int 2, V.int (1 + (n1 : Int) % 30)]) ht0 _ _ hnl
      refine ⟨_, rfl, nl, _, _, _, rfl, rfl, SqL.of hnl0, atN (j := 0) rfl (rowV_get hn0), .inl ⟨_, rfl, _, _, rfl, rfl, (by show (0 : Int) < 8; decide), t0, _, _, _, rfl, rfl, SqL.of upd_same, atN (j := j) ej em, ?_⟩⟩
      refine ⟨nl, ns, 68, many, rfl, hnl0, hm1, hm30, by omega, fun H2 al s2 hA => ?_⟩
      have hnl2 := s2 _ _ hnl0
      have sa2 := (Same_nn (o := .lst [V.int 1, V.int 2, V.int 3, V.int 2, V.int 3, V.int 4, V.int 2, V.int (1 + (n1 : Int) % 30)]) (s0.trans s1) ht0).trans s2
      have hale := hA.le
      -- drawn
      obtain ⟨q17, e17, h17⟩ := modN (z := (n2 : Int)) (t := 17) (by decide)
      obtain ⟨q36, e36, h36⟩ := modN (z := (n2 : Int)) (t := 36) (by decide)
      refine ⟨_, rfl, _, rfl, _, rfl, nl, _, _, _, rfl, rfl, SqL.of hnl2, atN (j := 2) rfl (rowV_get hn2), .inl ⟨_, rfl, _, _, rfl, rfl, (by show (0 : Int) < 17; decide), ?_⟩⟩
      refine ⟨nl, ns, al, 10, q17, ?_, hnl2, by omega, by omega, hA, fun H3 t lp tl as ps T s3 ht D hps => ?_⟩
      · show [V.ref nl, V.int 10, V.str (sAl al), V.int ((n2 : Int) % 17)] = _
        rw [e17]; rfl
      have hnl3 := s3 _ _ hnl2
      refine ⟨fun σ' H' => ∃ (t lp tl : Addr) (as : List Addr) (ps : List (Nat × Nat)) (T : List (List Nat)) (v1 v5 v6 v7 v8 v9 v10 v11 v12 v13 : Option V), σ' = [some (.ref sc), v1, some (.ref nl), some (.str (sAl al)), some (.ref t), v5, v6, v7, v8, v9, v10, v11, v12, v13] ∧ Same H2 H' ∧ H' t = some (.tup [.ref lp, .ref tl]) ∧ Dr H' lp tl al as ps T ∧ ps.length ≤ 40, ?_, ?_⟩
      · refine ⟨_, rfl, nl, _, _, _, rfl, rfl, SqL.of hnl3, atN (j := 3) rfl (rowV_get hn3), .inl ⟨_, rfl, _, _, rfl, rfl, (by show (0 : Int) < 6; decide), rfl, _, rfl, ?_⟩⟩
        refine ite2 (fun _ => ?_) (fun _ => ⟨t, lp, tl, as, ps, T, _, _, _, _, _, _, _, _, _, _, rfl, s3, ht, D, by omega⟩)
        refine ⟨_, rfl, _, rfl, _, rfl, nl, _, _, _, rfl, rfl, SqL.of hnl3, atN (j := 2) rfl (rowV_get hn2), .inl ⟨_, rfl, _, _, rfl, rfl, (by show (0 : Int) < 36; decide), ?_⟩⟩
        refine ⟨nl, ns, al, 10, q36, ?_, hnl3, by omega, by omega, hA, fun H4 t lp tl as ps T s4 ht D hps => ?_⟩
        · show [V.ref nl, V.int 10, V.str (sAl al), V.int ((n2 : Int) % 36)] = _
          rw [e36]; rfl
        exact ⟨t, lp, tl, as, ps, T, _, _, _, _, _, _, _, _, _, _, rfl, s3.trans s4, ht, D, by omega⟩
      clear D hps ht s3 hnl3
      clear H3 t lp tl as ps T
      rintro σ' H4 ⟨t, lp, tl, as, ps, T, v1, v5, v6, v7, v8, v9, v10, v11, v12, v13, rfl, s4, ht, D, hps⟩
      have hnl4 := s4 _ _ hnl2
      have hTl := D.pl.len
      have hT0 : 0 < T.length := by have := D.pl.pos; omega
      have hT9 : T.length ≤ 900 := by omega
      -- pairs, texts, joins
      refine ⟨_, rfl, t, _, _, _, rfl, rfl, SqT.of ht, atN (j := 0) rfl rfl, ?_⟩
      refine ⟨_, rfl, t, _, _, _, rfl, rfl, SqT.of ht, atN (j := 1) rfl rfl, ?_⟩
      refine ⟨_, rfl, _, rfl, lp, _, rfl, .inl ⟨SqL.of D.lp, fun tp htp => ?_⟩⟩
      intro J dx nJ ndx nex
      have s5 : Same H4 (upd H4 tp (.tup (refs as))) := Same_new htp
      have tpJ : tp ≠ J := ne_of_none upd_same nJ
      have tpd : tp ≠ dx := ne_of_none upd_same ndx
      have s6 : Same (upd H4 tp (.tup (refs as))) (upd (upd (upd H4 tp (.tup (refs as))) dx (.own J)) J (.ins C dx [])) := Same_put (Same_new ndx) nJ
      refine ⟨J, dx, tp, al, ps, T, as, rfl, upd_same, hA, s6 _ _ upd_same, (D.prs.same s5).same s6, D.pl, hT9, fun H7 keep jat => ⟨rfl, ?_⟩⟩
      have s7 : Same H4 H7 := s5.trans (Same.made nJ ndx keep)
      have D7 := D.same s7
      have hnl7 := s7 _ _ hnl4
      have tlen : ((((txV al T).length : Nat) : Int)) = (T.length : Int) := by rw [txV_len]
      -- the twelve pairs
      refine ⟨_, rfl, by decide, by decide, for_range (lo := 0) (n := (12 : Int).toNat)
        (fun i σ H' => ∃ v8 v9 v10 v11 v12 v13 : Option V, σ = [some (.ref sc), v1, some (.ref nl), some (.str (sAl al)), some (.ref t), some (.ref lp), some (.ref tl), some (.ref J), v8, v9, v10, v11, v12, v13] ∧ Same H7 H')
        ⟨_, _, _, _, _, _, rfl, Same.refl _⟩ ?_ ?_⟩
      · clear v8 v9 v10 v11 v12 v13
        rintro kx σ H8 hk ⟨v8, v9, v10, v11, v12, v13, rfl, s8⟩
        have hk : kx < 12 := hk
        have D8 := D7.same s8
        have hnl8 := s8 _ _ hnl7
        have jat8 := jat.same s8
        obtain ⟨a1, ha1⟩ : ∃ n, ns[43 + 2 * kx]? = some n := ⟨_, List.getElem?_eq_getElem (by omega)⟩
        obtain ⟨a2, ha2⟩ : ∃ n, ns[44 + 2 * kx]? = some n := ⟨_, List.getElem?_eq_getElem (by omega)⟩
        -- left
        refine ⟨fun σ' H' => H8 = H' ∧ ∃ l : Nat, σ' = [some (.ref sc), v1, some (.ref nl), some (.str (sAl al)), some (.ref t), some (.ref lp), some (.ref tl), some (.ref J), some (.int (0 + (kx : Int))), some (iV l), v10, v11, v12, v13] ∧ l < T.length, ?_, ?_⟩
        · obtain ⟨l, el, hl⟩ := modN (z := (a1 : Int)) (t := (T.length : Int)) (by omega)
          refine ⟨_, rfl, _, rfl, _, _, rfl, rfl, .inl ⟨by decide, by decide⟩, _, _, rfl, rfl, nl, _, _, _, rfl, rfl, SqL.of hnl8, atN (j := 43 + 2 * kx) (by omega) (rowV_get ha1), .inl ⟨_, rfl, _, rfl, tl, _, rfl, .inl (SqL.of D8.tl), _, _, rfl, rfl, (by rw [tlen]; omega), ?_⟩⟩
          refine ⟨rfl, l, ?_, by omega⟩
          show [some (V.ref sc), v1, some (V.ref nl), some (V.str (sAl al)), some (V.ref t), some (V.ref lp), some (V.ref tl), some (V.ref J), some (V.int (0 + (kx : Int))), some (V.int ((a1 : Int) % (((txV al T).length : Nat) : Int))), v10, v11, v12, v13] = _
          rw [tlen, el]; rfl
        rintro σ' H' ⟨rfl, l, rfl, hl⟩
        -- right
        refine ⟨fun σ' H' => H8 = H' ∧ ∃ l m : Nat, σ' = [some (.ref sc), v1, some (.ref nl), some (.str (sAl al)), some (.ref t), some (.ref lp), some (.ref tl), some (.ref J), some (.int (0 + (kx : Int))), some (iV l), some (iV m), v11, v12, v13] ∧ l < T.length ∧ m < T.length, ?_, ?_⟩
        · obtain ⟨m, em2, hm⟩ := modN (z := (a2 : Int)) (t := (T.length : Int)) (by omega)
          refine ⟨_, rfl, _, rfl, _, _, rfl, rfl, .inl ⟨by decide, by decide⟩, _, _, rfl, rfl, nl, _, _, _, rfl, rfl, SqL.of hnl8, atN (j := 44 + 2 * kx) (by omega) (rowV_get ha2), .inl ⟨_, rfl, _, rfl, tl, _, rfl, .inl (SqL.of D8.tl), _, _, rfl, rfl, (by rw [tlen]; omega), ?_⟩⟩
          refine ⟨rfl, l, m, ?_, hl, by omega⟩
          show [some (V.ref sc), v1, some (V.ref nl), some (V.str (sAl al)), some (V.ref t), some (V.ref lp), some (V.ref tl), some (V.ref J), some (V.int (0 + (kx : Int))), some (iV l), some (V.int ((a2 : Int) % (((txV al T).length : Nat) : Int))), v11, v12, v13] = _
          rw [tlen, em2]; rfl
        clear hl
        clear l
        rintro σ' H' ⟨rfl, l, m, rfl, hl, hm⟩
        -- .. the first of the newest
        refine ⟨fun σ' H' => H8 = H' ∧ ∃ l m : Nat, σ' = [some (.ref sc), v1, some (.ref nl), some (.str (sAl al)), some (.ref t), some (.ref lp), some (.ref tl), some (.ref J), some (.int (0 + (kx : Int))), some (iV l), some (iV m), v11, v12, v13] ∧ l < T.length ∧ m < T.length, ?_, ?_⟩
        · refine ⟨_, rfl, _, rfl, _, _, rfl, rfl, .inl ⟨by decide, by decide⟩, _, _, rfl, rfl, nl, _, _, _, rfl, rfl, SqL.of hnl8, atN (j := 43 + 2 * kx) (by omega) (rowV_get ha1), _, _, rfl, rfl, ⟨by decide, by decide⟩, .inl ⟨_, rfl, _, _, rfl, rfl, (by show (0 : Int) < 2; decide), rfl, _, rfl, ?_⟩⟩
          refine ite2 (fun _ => ?_) (fun _ => ⟨rfl, l, m, rfl, hl, hm⟩)
          obtain ⟨l', el, hl'⟩ := lastIx (n := (a1 : Int)) (t := T.length) (c := 4) hT0 (by decide)
          have mp := min_pos (t := T.length) (c := 4) hT0 (by decide)
          refine ⟨_, rfl, tl, _, rfl, .inl (SqL.of D8.tl), _, _, rfl, rfl, _, rfl, _, rfl, _, _, rfl, rfl, .inl ⟨by decide, by decide⟩, _, _, rfl, rfl, nl, _, _, _, rfl, rfl, SqL.of hnl8, atN (j := 43 + 2 * kx) (by omega) (rowV_get ha1), .inl ⟨_, rfl, _, rfl, tl, _, rfl, .inl (SqL.of D8.tl), _, _, rfl, _, _, rfl, rfl, by rw [tlen]; exact mp, _, _, rfl, rfl, ?_⟩⟩
          refine ⟨rfl, l', m, ?_, hl', hm⟩
          show [some (V.ref sc), v1, some (V.ref nl), some (V.str (sAl al)), some (V.ref t), some (V.ref lp), some (V.ref tl), some (V.ref J), some (V.int (0 + (kx : Int))), some (V.int ((((txV al T).length : Nat) : Int) - 1 - (a1 : Int) % (if (((txV al T).length : Nat) : Int) < 4 then (((txV al T).length : Nat) : Int) else 4))), some (iV m), v11, v12, v13] = _
          rw [tlen, el]; rfl
        clear hl hm
        clear l m
        rintro σ' H' ⟨rfl, l, m, rfl, hl, hm⟩
        -- .. the second
        refine ⟨fun σ' H' => H8 = H' ∧ ∃ l m : Nat, σ' = [some (.ref sc), v1, some (.ref nl), some (.str (sAl al)), some (.ref t), some (.ref lp), some (.ref tl), some (.ref J), some (.int (0 + (kx : Int))), some (iV l), some (iV m), v11, v12, v13] ∧ l < T.length ∧ m < T.length, ?_, ?_⟩
        · refine ⟨_, rfl, _, rfl, _, _, rfl, rfl, .inl ⟨by decide, by decide⟩, _, _, rfl, rfl, nl, _, _, _, rfl, rfl, SqL.of hnl8, atN (j := 44 + 2 * kx) (by omega) (rowV_get ha2), _, _, rfl, rfl, ⟨by decide, by decide⟩, .inl ⟨_, rfl, _, _, rfl, rfl, (by show (0 : Int) < 2; decide), rfl, _, rfl, ?_⟩⟩
          refine ite2 (fun _ => ?_) (fun _ => ⟨rfl, l, m, rfl, hl, hm⟩)
          obtain ⟨m', el, hm'⟩ := lastIx (n := (a2 : Int)) (t := T.length) (c := 4) hT0 (by decide)
          have mp := min_pos (t := T.length) (c := 4) hT0 (by decide)
          refine ⟨_, rfl, tl, _, rfl, .inl (SqL.of D8.tl), _, _, rfl, rfl, _, rfl, _, rfl, _, _, rfl, rfl, .inl ⟨by decide, by decide⟩, _, _, rfl, rfl, nl, _, _, _, rfl, rfl, SqL.of hnl8, atN (j := 44 + 2 * kx) (by omega) (rowV_get ha2), .inl ⟨_, rfl, _, rfl, tl, _, rfl, .inl (SqL.of D8.tl), _, _, rfl, _, _, rfl, rfl, by rw [tlen]; exact mp, _, _, rfl, rfl, ?_⟩⟩
          refine ⟨rfl, l, m', ?_, hl, hm'⟩
          show [some (V.ref sc), v1, some (V.ref nl), some (V.str (sAl al)), some (V.ref t), some (V.ref lp), some (V.ref tl), some (V.ref J), some (V.int (0 + (kx : Int))), some (iV l), some (V.int ((((txV al T).length : Nat) : Int) - 1 - (a2 : Int) % (if (((txV al T).length : Nat) : Int) < 4 then (((txV al T).length : Nat) : Int) else 4))), v11, v12, v13] = _
          rw [tlen, el]; rfl
        clear hl hm
        clear l m
        rintro σ' H' ⟨rfl, l, m, rfl, hl, hm⟩
        have pl := D8.pl
        have hl' := pl.size hl
        have hm' := pl.size hm
        have hsl := pl.tx_short hl'
        have hsm := pl.tx_short hm'
        have hlt : ∀ x ∈ tx T l ++ tx T m, x < al.length := fun x hx => by
          rcases List.mem_append.mp hx with z | z
          · exact pl.tx_lt l hl' x z
          · exact pl.tx_lt m hm' x z
        have h80 : (tx T l ++ tx T m).length ≤ 80 := by rw [List.length_append]; omega
        have hst80 : (st al.length ps (tx T l ++ tx T m)).length ≤ 80 := by
          have := S_len al.length ps (tx T l ++ tx T m) ps.length (Nat.le_refl _)
          rw [S_all] at this; omega
        -- text
        refine ⟨_, rfl, _, rfl, tl, _, _, _, rfl, rfl, SqL.of D8.tl, atN (j := l) rfl (txV_get hl), _, rfl, _, rfl, tl, _, _, _, rfl, rfl, SqL.of D8.tl, atN (j := m) rfl (txV_get hm), _, _, rfl, rfl, (by rw [sOf_len, sOf_len]; exact small_line (by omega)), ?_⟩
        rw [sOf_app]
        -- row
        refine ⟨_, rfl, _, rfl, (by show al.length ≤ sizeLine; exact small_line (by omega)), _, rfl, _, rfl, _, rfl, ?_⟩
        refine ⟨al, tx T l ++ tx T m, rfl, hA, hlt, by omega, fun H9 q9 s9 h9 => ?_⟩
        refine ⟨lp, q9, al.length, as, ps, _, rfl, s9 _ _ D8.lp, D8.prs.same s9, h9, by omega, by omega, fun Ha qa sa ha => ?_⟩
        refine ⟨qa, _, rfl, .inl ⟨SqL.of ha, fun rw_ hrw => ?_⟩⟩
        have sb := Same_nn (o := .tup (rowV (st al.length ps (tx T l ++ tx T m)))) (s9.trans sa) hrw
        -- due
        refine ⟨_, rfl, _, rfl, _, rfl, _, rfl, _, rfl, lp, tl, al, as, ps, T, l, m, rfl, D8.same sb, hA, hT9, hl, hm, fun Hc o' sc' hfc => ?_⟩
        have sc2 := sb.trans sc'
        -- crossing
        refine ⟨_, rfl, _, rfl, _, rfl, J, al, ps, T, l, m, rfl, jat8.same sc2, pl, hl, hm, hT9, fun Hd o sd hcr => ?_⟩
        have sd2 := sc2.trans sd
        have eo : o = o' := by
          obtain ⟨LA, LB, sA, sB, hmin⟩ := hcr
          exact (pl.main hl' hm' sA sB hmin).1 o' hfc
        subst eo
        refine ⟨_, rfl, bV o, rfl, ?_, true, rfl, iteF ?_⟩
        · cases o with
          | none => exact .inl rfl
          | some q => exact .inr (.inl ⟨_, rfl⟩)
        -- side_by_side
        refine ⟨_, rfl, _, rfl, _, rfl, J, al, ps, T, l, m, rfl, jat8.same sd2, pl, hl, hm, hT9, fun He o2 se hcr2 => ?_⟩
        have se2 := sd2.trans se
        refine ⟨_, rfl, _, rfl, _, rfl, (by show 2 ≤ sizeLine; decide), fun t2 ht2 => ?_⟩
        have sf := Same_new (o := .tup [iV l, iV m]) ht2
        have sf2 := se2.trans sf
        have rwc : Hc rw_ = some (.tup (rowV (st al.length ps (tx T l ++ tx T m)))) := sc' _ _ upd_same
        have rwf := sf _ _ (se _ _ (sd _ _ rwc))
        refine eq_tt (l := st al.length ps (tx T l ++ tx T m)) (m := [l, m]) rwf upd_same ?_
        have e2 : decide (st al.length ps (tx T l ++ tx T m) = [l, m]) = decide (o2 = none) := by
          obtain ⟨LA, LB, sA, sB, hmin⟩ := hcr2
          have := (pl.main hl' hm' sA sB hmin).2
          rw [Bool.eq_iff_iff, decide_eq_true_eq, decide_eq_true_eq]
          exact this
        rw [e2]
        refine ⟨.bl (decide (o2 = none)), rfl, .inr (.inr ⟨_, rfl⟩), true, rfl, iteF ?_⟩
        -- cut
        refine ⟨_, rfl, _, rfl, J, al, ps, T, _, rfl, jat8.same sf2, pl, by omega, hlt, by omega, fun Hg qg sg_ hg => ?_⟩
        refine ⟨_, rfl, qg, rw_, st al.length ps (tx T l ++ tx T m), rfl, hg, sg_ _ _ rwf, by omega, true, rfl, iteF ?_⟩
        exact ⟨_, _, _, _, _, _, rfl, s8.trans (sf2.trans sg_)⟩
      · rintro σ H8 ⟨v8, v9, v10, v11, v12, v13, rfl, s8⟩
        exact ⟨_, _, _, _, _, _, _, _, _, _, _, _, _, rfl, ((sa2.trans s4).trans s7).trans s8⟩
    · rintro σ H' ⟨v1, v2, v3, v4, v5, v6, v7, v8, v9, v10, v11, v12, v13, rfl, s0⟩
      exact k _
end
end RJ

set_option Elab.async false
set_option maxRecDepth 100000
set_option maxHeartbeats 4000000
namespace RJ
open PySem L2
/-! ### the end: what the top has written -/
theorem all_mk {l : PySem.W.OpenLaw} {w : World} {K : PySem.W.Frag} {h : Heap} {mg : Str → Option Value} {fa C fBetween fIsAlph fChecked fPut fLowest fCutRow fRight fLeft fCross fSide fLetters fCut fNumbers fSame fAlph fJoinAll fStaged fLLetters fLProper fList fChain fEnds fFirst fLaw fInit fTake fProper fIsPiece fCheck fParts fPieceOf : Addr} (X : K.In h) (G : h.Ns mainGlobals mg) (hfa : mg "law" = some (.ref fa))
    {odBetween anBetween odIsAlph anIsAlph odChecked anChecked odPut anPut odLowest anLowest odCutRow anCutRow odRight anRight odLeft anLeft odCross anCross odSide anSide odLetters anLetters odCut anCut odNumbers anNumbers odSame anSame odAlph anAlph odJoinAll anJoinAll odStaged anStaged odLLetters anLLetters odLProper anLProper odList anList odChain anChain odEnds anEnds odFirst anFirst odLaw anLaw odInit anInit odTake anTake odProper anProper odIsPiece anIsPiece odCheck anCheck odParts anParts odPieceOf anPieceOf : Option Addr} {slBetween slIsAlph slChecked slPut slLowest slCutRow slRight slLeft slCross slSide slLetters slCut slNumbers slSame slAlph slJoinAll slStaged slLLetters slLProper slList slChain slEnds slFirst slLaw slInit slTake slProper slIsPiece slCheck slParts slPieceOf : Array (Option Value)} {tM tL : Tok}
    {ocBetween kVBetween dcBetween pmBetween cdBetween ctBetween ocIsAlph kVIsAlph dcIsAlph pmIsAlph cdIsAlph ctIsAlph ocChecked kVChecked dcChecked pmChecked cdChecked ctChecked ocPut kVPut dcPut pmPut cdPut ctPut ocLowest kVLowest dcLowest pmLowest cdLowest ctLowest ocCutRow kVCutRow dcCutRow pmCutRow cdCutRow ctCutRow ocRight kVRight dcRight pmRight cdRight ctRight ocLeft kVLeft dcLeft pmLeft cdLeft ctLeft ocCross kVCross dcCross pmCross cdCross ctCross ocSide kVSide dcSide pmSide cdSide ctSide ocLetters kVLetters dcLetters pmLetters cdLetters ctLetters ocCut kVCut dcCut pmCut cdCut ctCut ocNumbers kVNumbers dcNumbers pmNumbers cdNumbers ctNumbers ocSame kVSame dcSame pmSame cdSame ctSame ocAlph kVAlph dcAlph pmAlph cdAlph ctAlph ocJoinAll kVJoinAll dcJoinAll pmJoinAll cdJoinAll ctJoinAll ocStaged kVStaged dcStaged pmStaged cdStaged ctStaged ocLLetters kVLLetters dcLLetters pmLLetters cdLLetters ctLLetters ocLProper kVLProper dcLProper pmLProper cdLProper ctLProper ocList kVList dcList pmList cdList ctList ocChain kVChain dcChain pmChain cdChain ctChain ocEnds kVEnds dcEnds pmEnds cdEnds ctEnds ocFirst kVFirst dcFirst pmFirst cdFirst ctFirst ocLaw kVLaw dcLaw pmLaw cdLaw ctLaw ocInit kVInit dcInit pmInit cdInit ctInit ocTake kVTake dcTake pmTake cdTake ctTake ocProper kVProper dcProper pmProper cdProper ctProper ocIsPiece kVIsPiece dcIsPiece pmIsPiece cdIsPiece ctIsPiece ocCheck kVCheck dcCheck pmCheck cdCheck ctCheck ocParts kVParts dcParts pmParts cdParts ctParts ocPieceOf kVPieceOf dcPieceOf pmPieceOf cdPieceOf ctPieceOf : Value}
    (aC : PySem.W.nsIn K mainGlobals "Joins" = some (some (.ref C)))
    (aBetween : PySem.W.nsIn K mainGlobals "is_between" = some (some (.ref fBetween))) (lBetween : K.lookup fBetween = some ⟨ocBetween, odBetween, .func (PySem.W.fnOf "is_between" "is_between" (defArgs sBetween) (defBody sBetween) (defScope sBetween) .none kVBetween dcBetween pmBetween anBetween cdBetween ctBetween), slBetween⟩) (cBetween : PySem.W.codeIn K cdBetween "is_between" = true) (kBetween : PySem.W.keepIn K (.ref fBetween) = true)
    (aIsAlph : PySem.W.nsIn K mainGlobals "is_alphabet" = some (some (.ref fIsAlph))) (lIsAlph : K.lookup fIsAlph = some ⟨ocIsAlph, odIsAlph, .func (PySem.W.fnOf "is_alphabet" "is_alphabet" (defArgs sIsAlph) (defBody sIsAlph) (defScope sIsAlph) .none kVIsAlph dcIsAlph pmIsAlph anIsAlph cdIsAlph ctIsAlph), slIsAlph⟩) (cIsAlph : PySem.W.codeIn K cdIsAlph "is_alphabet" = true) (kIsAlph : PySem.W.keepIn K (.ref fIsAlph) = true)
    (aChecked : PySem.W.nsIn K mainGlobals "checked_alphabet" = some (some (.ref fChecked))) (lChecked : K.lookup fChecked = some ⟨ocChecked, odChecked, .func (PySem.W.fnOf "checked_alphabet" "checked_alphabet" (defArgs sChecked) (defBody sChecked) (defScope sChecked) .none kVChecked dcChecked pmChecked anChecked cdChecked ctChecked), slChecked⟩) (cChecked : PySem.W.codeIn K cdChecked "checked_alphabet" = true) (kChecked : PySem.W.keepIn K (.ref fChecked) = true)
    (aPut : PySem.W.nsIn K mainGlobals "put_together" = some (some (.ref fPut))) (lPut : K.lookup fPut = some ⟨ocPut, odPut, .func (PySem.W.fnOf "put_together" "put_together" (defArgs sPut) (defBody sPut) (defScope sPut) .none kVPut dcPut pmPut anPut cdPut ctPut), slPut⟩) (cPut : PySem.W.codeIn K cdPut "put_together" = true) (kPut : PySem.W.keepIn K (.ref fPut) = true)
    (aLowest : PySem.W.nsIn K mainGlobals "lowest_pair" = some (some (.ref fLowest))) (lLowest : K.lookup fLowest = some ⟨ocLowest, odLowest, .func (PySem.W.fnOf "lowest_pair" "lowest_pair" (defArgs sLowest) (defBody sLowest) (defScope sLowest) .none kVLowest dcLowest pmLowest anLowest cdLowest ctLowest), slLowest⟩) (cLowest : PySem.W.codeIn K cdLowest "lowest_pair" = true) (kLowest : PySem.W.keepIn K (.ref fLowest) = true)
    (aCutRow : PySem.W.nsIn K mainGlobals "cut_row" = some (some (.ref fCutRow))) (lCutRow : K.lookup fCutRow = some ⟨ocCutRow, odCutRow, .func (PySem.W.fnOf "cut_row" "cut_row" (defArgs sCutRow) (defBody sCutRow) (defScope sCutRow) .none kVCutRow dcCutRow pmCutRow anCutRow cdCutRow ctCutRow), slCutRow⟩) (cCutRow : PySem.W.codeIn K cdCutRow "cut_row" = true) (kCutRow : PySem.W.keepIn K (.ref fCutRow) = true)
    (aRight : PySem.W.nsIn K mainGlobals "right_spine" = some (some (.ref fRight))) (lRight : K.lookup fRight = some ⟨ocRight, odRight, .func (PySem.W.fnOf "right_spine" "right_spine" (defArgs sRight) (defBody sRight) (defScope sRight) .none kVRight dcRight pmRight anRight cdRight ctRight), slRight⟩) (cRight : PySem.W.codeIn K cdRight "right_spine" = true) (kRight : PySem.W.keepIn K (.ref fRight) = true)
    (aLeft : PySem.W.nsIn K mainGlobals "left_spine" = some (some (.ref fLeft))) (lLeft : K.lookup fLeft = some ⟨ocLeft, odLeft, .func (PySem.W.fnOf "left_spine" "left_spine" (defArgs sLeft) (defBody sLeft) (defScope sLeft) .none kVLeft dcLeft pmLeft anLeft cdLeft ctLeft), slLeft⟩) (cLeft : PySem.W.codeIn K cdLeft "left_spine" = true) (kLeft : PySem.W.keepIn K (.ref fLeft) = true)
    (aCross : PySem.W.nsIn K mainGlobals "crossing" = some (some (.ref fCross))) (lCross : K.lookup fCross = some ⟨ocCross, odCross, .func (PySem.W.fnOf "crossing" "crossing" (defArgs sCross) (defBody sCross) (defScope sCross) .none kVCross dcCross pmCross anCross cdCross ctCross), slCross⟩) (cCross : PySem.W.codeIn K cdCross "crossing" = true) (kCross : PySem.W.keepIn K (.ref fCross) = true)
    (aSide : PySem.W.nsIn K mainGlobals "side_by_side" = some (some (.ref fSide))) (lSide : K.lookup fSide = some ⟨ocSide, odSide, .func (PySem.W.fnOf "side_by_side" "side_by_side" (defArgs sSide) (defBody sSide) (defScope sSide) .none kVSide dcSide pmSide anSide cdSide ctSide), slSide⟩) (cSide : PySem.W.codeIn K cdSide "side_by_side" = true) (kSide : PySem.W.keepIn K (.ref fSide) = true)
    (aLetters : PySem.W.nsIn K mainGlobals "letters_of" = some (some (.ref fLetters))) (lLetters : K.lookup fLetters = some ⟨ocLetters, odLetters, .func (PySem.W.fnOf "letters_of" "letters_of" (defArgs sLetters) (defBody sLetters) (defScope sLetters) .none kVLetters dcLetters pmLetters anLetters cdLetters ctLetters), slLetters⟩) (cLetters : PySem.W.codeIn K cdLetters "letters_of" = true) (kLetters : PySem.W.keepIn K (.ref fLetters) = true)
    (aCut : PySem.W.nsIn K mainGlobals "cut" = some (some (.ref fCut))) (lCut : K.lookup fCut = some ⟨ocCut, odCut, .func (PySem.W.fnOf "cut" "cut" (defArgs sCut) (defBody sCut) (defScope sCut) .none kVCut dcCut pmCut anCut cdCut ctCut), slCut⟩) (cCut : PySem.W.codeIn K cdCut "cut" = true) (kCut : PySem.W.keepIn K (.ref fCut) = true)
    (aNumbers : PySem.W.nsIn K mainGlobals "_law_numbers" = some (some (.ref fNumbers))) (lNumbers : K.lookup fNumbers = some ⟨ocNumbers, odNumbers, .func (PySem.W.fnOf "_law_numbers" "_law_numbers" (defArgs sNumbers) (defBody sNumbers) (defScope sNumbers) .none kVNumbers dcNumbers pmNumbers anNumbers cdNumbers ctNumbers), slNumbers⟩) (cNumbers : PySem.W.codeIn K cdNumbers "_law_numbers" = true) (kNumbers : PySem.W.keepIn K (.ref fNumbers) = true)
    (aSame : PySem.W.nsIn K mainGlobals "_law_same" = some (some (.ref fSame))) (lSame : K.lookup fSame = some ⟨ocSame, odSame, .func (PySem.W.fnOf "_law_same" "_law_same" (defArgs sSame) (defBody sSame) (defScope sSame) .none kVSame dcSame pmSame anSame cdSame ctSame), slSame⟩) (cSame : PySem.W.codeIn K cdSame "_law_same" = true) (kSame : PySem.W.keepIn K (.ref fSame) = true)
    (aAlph : PySem.W.nsIn K mainGlobals "_law_alphabet" = some (some (.ref fAlph))) (lAlph : K.lookup fAlph = some ⟨ocAlph, odAlph, .func (PySem.W.fnOf "_law_alphabet" "_law_alphabet" (defArgs sAlph) (defBody sAlph) (defScope sAlph) .none kVAlph dcAlph pmAlph anAlph cdAlph ctAlph), slAlph⟩) (cAlph : PySem.W.codeIn K cdAlph "_law_alphabet" = true) (kAlph : PySem.W.keepIn K (.ref fAlph) = true)
    (aJoinAll : PySem.W.nsIn K mainGlobals "_law_join_all" = some (some (.ref fJoinAll))) (lJoinAll : K.lookup fJoinAll = some ⟨ocJoinAll, odJoinAll, .func (PySem.W.fnOf "_law_join_all" "_law_join_all" (defArgs sJoinAll) (defBody sJoinAll) (defScope sJoinAll) .none kVJoinAll dcJoinAll pmJoinAll anJoinAll cdJoinAll ctJoinAll), slJoinAll⟩) (cJoinAll : PySem.W.codeIn K cdJoinAll "_law_join_all" = true) (kJoinAll : PySem.W.keepIn K (.ref fJoinAll) = true)
    (aStaged : PySem.W.nsIn K mainGlobals "_law_staged" = some (some (.ref fStaged))) (lStaged : K.lookup fStaged = some ⟨ocStaged, odStaged, .func (PySem.W.fnOf "_law_staged" "_law_staged" (defArgs sStaged) (defBody sStaged) (defScope sStaged) .none kVStaged dcStaged pmStaged anStaged cdStaged ctStaged), slStaged⟩) (cStaged : PySem.W.codeIn K cdStaged "_law_staged" = true) (kStaged : PySem.W.keepIn K (.ref fStaged) = true)
    (aLLetters : PySem.W.nsIn K mainGlobals "_law_letters" = some (some (.ref fLLetters))) (lLLetters : K.lookup fLLetters = some ⟨ocLLetters, odLLetters, .func (PySem.W.fnOf "_law_letters" "_law_letters" (defArgs sLLetters) (defBody sLLetters) (defScope sLLetters) .none kVLLetters dcLLetters pmLLetters anLLetters cdLLetters ctLLetters), slLLetters⟩) (cLLetters : PySem.W.codeIn K cdLLetters "_law_letters" = true) (kLLetters : PySem.W.keepIn K (.ref fLLetters) = true)
    (aLProper : PySem.W.nsIn K mainGlobals "_law_is_proper" = some (some (.ref fLProper))) (lLProper : K.lookup fLProper = some ⟨ocLProper, odLProper, .func (PySem.W.fnOf "_law_is_proper" "_law_is_proper" (defArgs sLProper) (defBody sLProper) (defScope sLProper) .none kVLProper dcLProper pmLProper anLProper cdLProper ctLProper), slLProper⟩) (cLProper : PySem.W.codeIn K cdLProper "_law_is_proper" = true) (kLProper : PySem.W.keepIn K (.ref fLProper) = true)
    (aList : PySem.W.nsIn K mainGlobals "_law_list" = some (some (.ref fList))) (lList : K.lookup fList = some ⟨ocList, odList, .func (PySem.W.fnOf "_law_list" "_law_list" (defArgs sList) (defBody sList) (defScope sList) .none kVList dcList pmList anList cdList ctList), slList⟩) (cList : PySem.W.codeIn K cdList "_law_list" = true) (kList : PySem.W.keepIn K (.ref fList) = true)
    (aChain : PySem.W.nsIn K mainGlobals "_law_chain" = some (some (.ref fChain))) (lChain : K.lookup fChain = some ⟨ocChain, odChain, .func (PySem.W.fnOf "_law_chain" "_law_chain" (defArgs sChain) (defBody sChain) (defScope sChain) .none kVChain dcChain pmChain anChain cdChain ctChain), slChain⟩) (cChain : PySem.W.codeIn K cdChain "_law_chain" = true) (kChain : PySem.W.keepIn K (.ref fChain) = true)
    (aEnds : PySem.W.nsIn K mainGlobals "_law_ends" = some (some (.ref fEnds))) (lEnds : K.lookup fEnds = some ⟨ocEnds, odEnds, .func (PySem.W.fnOf "_law_ends" "_law_ends" (defArgs sEnds) (defBody sEnds) (defScope sEnds) .none kVEnds dcEnds pmEnds anEnds cdEnds ctEnds), slEnds⟩) (cEnds : PySem.W.codeIn K cdEnds "_law_ends" = true) (kEnds : PySem.W.keepIn K (.ref fEnds) = true)
    (aFirst : PySem.W.nsIn K mainGlobals "_law_first_cross" = some (some (.ref fFirst))) (lFirst : K.lookup fFirst = some ⟨ocFirst, odFirst, .func (PySem.W.fnOf "_law_first_cross" "_law_first_cross" (defArgs sFirst) (defBody sFirst) (defScope sFirst) .none kVFirst dcFirst pmFirst anFirst cdFirst ctFirst), slFirst⟩) (cFirst : PySem.W.codeIn K cdFirst "_law_first_cross" = true) (kFirst : PySem.W.keepIn K (.ref fFirst) = true)
    (aLaw : PySem.W.nsIn K mainGlobals "law" = some (some (.ref fLaw))) (lLaw : K.lookup fLaw = some ⟨ocLaw, odLaw, .func (PySem.W.fnOf "law" "law" (defArgs sLaw) (defBody sLaw) (defScope sLaw) .none kVLaw dcLaw pmLaw anLaw cdLaw ctLaw), slLaw⟩) (cLaw : PySem.W.codeIn K cdLaw "law" = true) (kLaw : PySem.W.keepIn K (.ref fLaw) = true)
    (aInit : PySem.W.findIn K (.ref C) "__init__" = some (some (.ref fInit))) (iInit : PySem.W.isFn K (.ref fInit) = true) (lInit : K.lookup fInit = some ⟨ocInit, odInit, .func (PySem.W.fnOf "__init__" "Joins.__init__" (defArgs sInit) (defBody sInit) (defScope sInit) .none kVInit dcInit pmInit anInit cdInit ctInit), slInit⟩) (cInit : PySem.W.codeIn K cdInit "Joins.__init__" = true) (kInit : PySem.W.keepIn K (.ref fInit) = true)
    (aTake : PySem.W.findIn K (.ref C) "take" = some (some (.ref fTake))) (iTake : PySem.W.isFn K (.ref fTake) = true) (lTake : K.lookup fTake = some ⟨ocTake, odTake, .func (PySem.W.fnOf "take" "Joins.take" (defArgs sTake) (defBody sTake) (defScope sTake) .none kVTake dcTake pmTake anTake cdTake ctTake), slTake⟩) (cTake : PySem.W.codeIn K cdTake "Joins.take" = true) (kTake : PySem.W.keepIn K (.ref fTake) = true)
    (aProper : PySem.W.findIn K (.ref C) "is_proper" = some (some (.ref fProper))) (iProper : PySem.W.isFn K (.ref fProper) = true) (lProper : K.lookup fProper = some ⟨ocProper, odProper, .func (PySem.W.fnOf "is_proper" "Joins.is_proper" (defArgs sProper) (defBody sProper) (defScope sProper) .none kVProper dcProper pmProper anProper cdProper ctProper), slProper⟩) (cProper : PySem.W.codeIn K cdProper "Joins.is_proper" = true) (kProper : PySem.W.keepIn K (.ref fProper) = true)
    (aIsPiece : PySem.W.findIn K (.ref C) "is_piece" = some (some (.ref fIsPiece))) (iIsPiece : PySem.W.isFn K (.ref fIsPiece) = true) (lIsPiece : K.lookup fIsPiece = some ⟨ocIsPiece, odIsPiece, .func (PySem.W.fnOf "is_piece" "Joins.is_piece" (defArgs sIsPiece) (defBody sIsPiece) (defScope sIsPiece) .none kVIsPiece dcIsPiece pmIsPiece anIsPiece cdIsPiece ctIsPiece), slIsPiece⟩) (cIsPiece : PySem.W.codeIn K cdIsPiece "Joins.is_piece" = true) (kIsPiece : PySem.W.keepIn K (.ref fIsPiece) = true)
    (aCheck : PySem.W.findIn K (.ref C) "check_piece" = some (some (.ref fCheck))) (iCheck : PySem.W.isFn K (.ref fCheck) = true) (lCheck : K.lookup fCheck = some ⟨ocCheck, odCheck, .func (PySem.W.fnOf "check_piece" "Joins.check_piece" (defArgs sCheck) (defBody sCheck) (defScope sCheck) .none kVCheck dcCheck pmCheck anCheck cdCheck ctCheck), slCheck⟩) (cCheck : PySem.W.codeIn K cdCheck "Joins.check_piece" = true) (kCheck : PySem.W.keepIn K (.ref fCheck) = true)
    (aParts : PySem.W.findIn K (.ref C) "parts_of" = some (some (.ref fParts))) (iParts : PySem.W.isFn K (.ref fParts) = true) (lParts : K.lookup fParts = some ⟨ocParts, odParts, .func (PySem.W.fnOf "parts_of" "Joins.parts_of" (defArgs sParts) (defBody sParts) (defScope sParts) .none kVParts dcParts pmParts anParts cdParts ctParts), slParts⟩) (cParts : PySem.W.codeIn K cdParts "Joins.parts_of" = true) (kParts : PySem.W.keepIn K (.ref fParts) = true)
    (aPieceOf : PySem.W.findIn K (.ref C) "piece_of" = some (some (.ref fPieceOf))) (iPieceOf : PySem.W.isFn K (.ref fPieceOf) = true) (lPieceOf : K.lookup fPieceOf = some ⟨ocPieceOf, odPieceOf, .func (PySem.W.fnOf "piece_of" "Joins.piece_of" (defArgs sPieceOf) (defBody sPieceOf) (defScope sPieceOf) .none kVPieceOf dcPieceOf pmPieceOf anPieceOf cdPieceOf ctPieceOf), slPieceOf⟩) (cPieceOf : PySem.W.codeIn K cdPieceOf "Joins.piece_of" = true) (kPieceOf : PySem.W.keepIn K (.ref fPieceOf) = true)
    (pgC : PySem.W.plainGet K C Str.empty = true) (hdC : PySem.W.hasDictIn K C = true) (poC : PySem.W.plainOver K C = true) (saC : PySem.W.findIn K (.ref C) "__setattr__" = some (some (.builtin "object.__setattr__"))) (mkC : PySem.W.makesIn K C = true) (kcC : PySem.W.keepIn K (.ref C) = true)
    (nA : PySem.W.findIn K (.ref C) "alphabet" = some none) (nP : PySem.W.findIn K (.ref C) "pairs" = some none) (nT : PySem.W.findIn K (.ref C) "texts" = some none) (nR : PySem.W.findIn K (.ref C) "ranks" = some none) (nN : PySem.W.findIn K (.ref C) "numbers" = some none) (nL : PySem.W.findIn K (.ref C) "longest" = some none)
    (z_len : PySem.W.nsIn K mainGlobals "len" = some none) (z_isinstance : PySem.W.nsIn K mainGlobals "isinstance" = some none) (z_int : PySem.W.nsIn K mainGlobals "int" = some none) (z_bool : PySem.W.nsIn K mainGlobals "bool" = some none) (z_str : PySem.W.nsIn K mainGlobals "str" = some none) (z_tuple : PySem.W.nsIn K mainGlobals "tuple" = some none) (z_list : PySem.W.nsIn K mainGlobals "list" = some none) (z_range : PySem.W.nsIn K mainGlobals "range" = some none) (z_min : PySem.W.nsIn K mainGlobals "min" = some none) (z_max : PySem.W.nsIn K mainGlobals "max" = some none) (z_abs : PySem.W.nsIn K mainGlobals "abs" = some none) (z_enumerate : PySem.W.nsIn K mainGlobals "enumerate" = some none) (z_sorted : PySem.W.nsIn K mainGlobals "sorted" = some none)
    (gM : PySem.W.nsIn K mainGlobals "MOST_LETTERS" = some (some (.int 30 tM))) (gL : PySem.W.nsIn K mainGlobals "LONGEST_PIECE" = some (some (.int 40 tL))) :
    ∃ fd : FuncData, (∀ (s : Shared) (v : Value), BindsTo s fd ⟨[v], []⟩ [("_law_script", v)]) ∧ ∀ base : Heap, K.In base → base.Ns mainGlobals mg → FnOk l.prog w K mg base CX0 8 fa fd ["_law_script"] (spLaw K) := by
  have e := hfa.symm.trans (PySem.W.mg_of X G aLaw)
  cases e
  have T : Txt K mg C := ⟨⟨pgC, hdC, poC, saC⟩, nA, nP, nT, nR, nN, nL, PySem.W.mg_of X G aC⟩
  have B : Bn mg := ⟨PySem.W.mg_none_of X G z_len, PySem.W.mg_none_of X G z_isinstance, PySem.W.mg_none_of X G z_int, PySem.W.mg_none_of X G z_bool, PySem.W.mg_none_of X G z_str, PySem.W.mg_none_of X G z_tuple, PySem.W.mg_none_of X G z_list, PySem.W.mg_none_of X G z_range, PySem.W.mg_none_of X G z_min, PySem.W.mg_none_of X G z_max, PySem.W.mg_none_of X G z_abs, PySem.W.mg_none_of X G z_enumerate, PySem.W.mg_none_of X G z_sorted⟩
  have hM := PySem.W.mg_of X G gM
  have hL := PySem.W.mg_of X G gL
  have FBetween := fun_mk (st := sBetween) lBetween cBetween kBetween
  have CBetween : Cal K mg "is_between" sBetween fBetween _ ["value", "least", "most"] := ⟨FBetween, PySem.W.mg_of X G aBetween, FBetween.binds (ps := ["value", "least", "most"]) fun _ _ _ _ _ _ us hl => match us, hl with | [_, _, _], _ => rfl⟩
  have FIsAlph := fun_mk (st := sIsAlph) lIsAlph cIsAlph kIsAlph
  have CIsAlph : Cal K mg "is_alphabet" sIsAlph fIsAlph _ ["alphabet"] := ⟨FIsAlph, PySem.W.mg_of X G aIsAlph, FIsAlph.binds (ps := ["alphabet"]) fun _ _ _ _ _ _ us hl => match us, hl with | [_], _ => rfl⟩
  have FChecked := fun_mk (st := sChecked) lChecked cChecked kChecked
  have CChecked : Cal K mg "checked_alphabet" sChecked fChecked _ ["alphabet"] := ⟨FChecked, PySem.W.mg_of X G aChecked, FChecked.binds (ps := ["alphabet"]) fun _ _ _ _ _ _ us hl => match us, hl with | [_], _ => rfl⟩
  have FPut := fun_mk (st := sPut) lPut cPut kPut
  have CPut : Cal K mg "put_together" sPut fPut _ ["row", "pair", "piece"] := ⟨FPut, PySem.W.mg_of X G aPut, FPut.binds (ps := ["row", "pair", "piece"]) fun _ _ _ _ _ _ us hl => match us, hl with | [_, _, _], _ => rfl⟩
  have FLowest := fun_mk (st := sLowest) lLowest cLowest kLowest
  have CLowest : Cal K mg "lowest_pair" sLowest fLowest _ ["ranks", "row"] := ⟨FLowest, PySem.W.mg_of X G aLowest, FLowest.binds (ps := ["ranks", "row"]) fun _ _ _ _ _ _ us hl => match us, hl with | [_, _], _ => rfl⟩
  have FCutRow := fun_mk (st := sCutRow) lCutRow cCutRow kCutRow
  have CCutRow : Cal K mg "cut_row" sCutRow fCutRow _ ["ranks", "letters", "row"] := ⟨FCutRow, PySem.W.mg_of X G aCutRow, FCutRow.binds (ps := ["ranks", "letters", "row"]) fun _ _ _ _ _ _ us hl => match us, hl with | [_, _, _], _ => rfl⟩
  have FRight := fun_mk (st := sRight) lRight cRight kRight
  have CRight : Cal K mg "right_spine" sRight fRight _ ["joins", "piece"] := ⟨FRight, PySem.W.mg_of X G aRight, FRight.binds (ps := ["joins", "piece"]) fun _ _ _ _ _ _ us hl => match us, hl with | [_, _], _ => rfl⟩
  have FLeft := fun_mk (st := sLeft) lLeft cLeft kLeft
  have CLeft : Cal K mg "left_spine" sLeft fLeft _ ["joins", "piece"] := ⟨FLeft, PySem.W.mg_of X G aLeft, FLeft.binds (ps := ["joins", "piece"]) fun _ _ _ _ _ _ us hl => match us, hl with | [_, _], _ => rfl⟩
  have FCross := fun_mk (st := sCross) lCross cCross kCross
  have CCross : Cal K mg "crossing" sCross fCross _ ["joins", "left", "right"] := ⟨FCross, PySem.W.mg_of X G aCross, FCross.binds (ps := ["joins", "left", "right"]) fun _ _ _ _ _ _ us hl => match us, hl with | [_, _, _], _ => rfl⟩
  have FSide := fun_mk (st := sSide) lSide cSide kSide
  have CSide : Cal K mg "side_by_side" sSide fSide _ ["joins", "left", "right"] := ⟨FSide, PySem.W.mg_of X G aSide, FSide.binds (ps := ["joins", "left", "right"]) fun _ _ _ _ _ _ us hl => match us, hl with | [_, _, _], _ => rfl⟩
  have FLetters := fun_mk (st := sLetters) lLetters cLetters kLetters
  have CLetters : Cal K mg "letters_of" sLetters fLetters _ ["joins", "text"] := ⟨FLetters, PySem.W.mg_of X G aLetters, FLetters.binds (ps := ["joins", "text"]) fun _ _ _ _ _ _ us hl => match us, hl with | [_, _], _ => rfl⟩
  have FCut := fun_mk (st := sCut) lCut cCut kCut
  have CCut : Cal K mg "cut" sCut fCut _ ["joins", "text"] := ⟨FCut, PySem.W.mg_of X G aCut, FCut.binds (ps := ["joins", "text"]) fun _ _ _ _ _ _ us hl => match us, hl with | [_, _], _ => rfl⟩
  have FNumbers := fun_mk (st := sNumbers) lNumbers cNumbers kNumbers
  have CNumbers : Cal K mg "_law_numbers" sNumbers fNumbers _ ["_law_cell", "_law_at", "_law_many"] := ⟨FNumbers, PySem.W.mg_of X G aNumbers, FNumbers.binds (ps := ["_law_cell", "_law_at", "_law_many"]) fun _ _ _ _ _ _ us hl => match us, hl with | [_, _, _], _ => rfl⟩
  have FSame := fun_mk (st := sSame) lSame cSame kSame
  have CSame : Cal K mg "_law_same" sSame fSame _ ["_law_actual", "_law_expected"] := ⟨FSame, PySem.W.mg_of X G aSame, FSame.binds (ps := ["_law_actual", "_law_expected"]) fun _ _ _ _ _ _ us hl => match us, hl with | [_, _], _ => rfl⟩
  have FAlph := fun_mk (st := sAlph) lAlph cAlph kAlph
  have CAlph : Cal K mg "_law_alphabet" sAlph fAlph _ ["_law_numbers_here", "_law_k", "_law_many"] := ⟨FAlph, PySem.W.mg_of X G aAlph, FAlph.binds (ps := ["_law_numbers_here", "_law_k", "_law_many"]) fun _ _ _ _ _ _ us hl => match us, hl with | [_, _, _], _ => rfl⟩
  have FJoinAll := fun_mk (st := sJoinAll) lJoinAll cJoinAll kJoinAll
  have CJoinAll : Cal K mg "_law_join_all" sJoinAll fJoinAll _ ["_law_row", "_law_pair", "_law_made"] := ⟨FJoinAll, PySem.W.mg_of X G aJoinAll, FJoinAll.binds (ps := ["_law_row", "_law_pair", "_law_made"]) fun _ _ _ _ _ _ us hl => match us, hl with | [_, _, _], _ => rfl⟩
  have FStaged := fun_mk (st := sStaged) lStaged cStaged kStaged
  have CStaged : Cal K mg "_law_staged" sStaged fStaged _ ["_law_many", "_law_pairs", "_law_row"] := ⟨FStaged, PySem.W.mg_of X G aStaged, FStaged.binds (ps := ["_law_many", "_law_pairs", "_law_row"]) fun _ _ _ _ _ _ us hl => match us, hl with | [_, _, _], _ => rfl⟩
  have FLLetters := fun_mk (st := sLLetters) lLLetters cLLetters kLLetters
  have CLLetters : Cal K mg "_law_letters" sLLetters fLLetters _ ["_law_alphabet_here", "_law_text"] := ⟨FLLetters, PySem.W.mg_of X G aLLetters, FLLetters.binds (ps := ["_law_alphabet_here", "_law_text"]) fun _ _ _ _ _ _ us hl => match us, hl with | [_, _], _ => rfl⟩
  have FLProper := fun_mk (st := sLProper) lLProper cLProper kLProper
  have CLProper : Cal K mg "_law_is_proper" sLProper fLProper _ ["_law_alphabet_here", "_law_texts", "_law_pairs", "_law_pair"] := ⟨FLProper, PySem.W.mg_of X G aLProper, FLProper.binds (ps := ["_law_alphabet_here", "_law_texts", "_law_pairs", "_law_pair"]) fun _ _ _ _ _ _ us hl => match us, hl with | [_, _, _, _], _ => rfl⟩
  have FList := fun_mk (st := sList) lList cList kList
  have CList : Cal K mg "_law_list" sList fList _ ["_law_numbers_here", "_law_k", "_law_alphabet_here", "_law_many"] := ⟨FList, PySem.W.mg_of X G aList, FList.binds (ps := ["_law_numbers_here", "_law_k", "_law_alphabet_here", "_law_many"]) fun _ _ _ _ _ _ us hl => match us, hl with | [_, _, _, _], _ => rfl⟩
  have FChain := fun_mk (st := sChain) lChain cChain kChain
  have CChain : Cal K mg "_law_chain" sChain fChain _ ["_law_numbers_here", "_law_k", "_law_alphabet_here", "_law_many"] := ⟨FChain, PySem.W.mg_of X G aChain, FChain.binds (ps := ["_law_numbers_here", "_law_k", "_law_alphabet_here", "_law_many"]) fun _ _ _ _ _ _ us hl => match us, hl with | [_, _, _, _], _ => rfl⟩
  have FEnds := fun_mk (st := sEnds) lEnds cEnds kEnds
  have CEnds : Cal K mg "_law_ends" sEnds fEnds _ ["_law_row", "_law_texts"] := ⟨FEnds, PySem.W.mg_of X G aEnds, FEnds.binds (ps := ["_law_row", "_law_texts"]) fun _ _ _ _ _ _ us hl => match us, hl with | [_, _], _ => rfl⟩
  have FFirst := fun_mk (st := sFirst) lFirst cFirst kFirst
  have CFirst : Cal K mg "_law_first_cross" sFirst fFirst _ ["_law_alphabet_here", "_law_pairs", "_law_texts", "_law_left", "_law_right"] := ⟨FFirst, PySem.W.mg_of X G aFirst, FFirst.binds (ps := ["_law_alphabet_here", "_law_pairs", "_law_texts", "_law_left", "_law_right"]) fun _ _ _ _ _ _ us hl => match us, hl with | [_, _, _, _, _], _ => rfl⟩
  have FLaw := fun_mk (st := sLaw) lLaw cLaw kLaw
  have FInit := fun_mk (st := sInit) lInit cInit kInit
  have bInit := FInit.binds (ps := ["self", "alphabet", "pairs"]) fun _ _ _ _ _ _ us hl => match us, hl with | [_, _, _], _ => rfl
  have FTake := fun_mk (st := sTake) lTake cTake kTake
  have bTake := FTake.binds (ps := ["self", "pair"]) fun _ _ _ _ _ _ us hl => match us, hl with | [_, _], _ => rfl
  have MTake : Met K C "take" "Joins.take" sTake fTake _ ["self", "pair"] := ⟨FTake, ⟨aTake, iTake, kTake⟩, bTake⟩
  have FProper := fun_mk (st := sProper) lProper cProper kProper
  have bProper := FProper.binds (ps := ["self", "pair"]) fun _ _ _ _ _ _ us hl => match us, hl with | [_, _], _ => rfl
  have MProper : Met K C "is_proper" "Joins.is_proper" sProper fProper _ ["self", "pair"] := ⟨FProper, ⟨aProper, iProper, kProper⟩, bProper⟩
  have FIsPiece := fun_mk (st := sIsPiece) lIsPiece cIsPiece kIsPiece
  have bIsPiece := FIsPiece.binds (ps := ["self", "piece"]) fun _ _ _ _ _ _ us hl => match us, hl with | [_, _], _ => rfl
  have MIsPiece : Met K C "is_piece" "Joins.is_piece" sIsPiece fIsPiece _ ["self", "piece"] := ⟨FIsPiece, ⟨aIsPiece, iIsPiece, kIsPiece⟩, bIsPiece⟩
  have FCheck := fun_mk (st := sCheck) lCheck cCheck kCheck
  have bCheck := FCheck.binds (ps := ["self", "piece"]) fun _ _ _ _ _ _ us hl => match us, hl with | [_, _], _ => rfl
  have MCheck : Met K C "check_piece" "Joins.check_piece" sCheck fCheck _ ["self", "piece"] := ⟨FCheck, ⟨aCheck, iCheck, kCheck⟩, bCheck⟩
  have FParts := fun_mk (st := sParts) lParts cParts kParts
  have bParts := FParts.binds (ps := ["self", "piece"]) fun _ _ _ _ _ _ us hl => match us, hl with | [_, _], _ => rfl
  have MParts : Met K C "parts_of" "Joins.parts_of" sParts fParts _ ["self", "piece"] := ⟨FParts, ⟨aParts, iParts, kParts⟩, bParts⟩
  have FPieceOf := fun_mk (st := sPieceOf) lPieceOf cPieceOf kPieceOf
  have bPieceOf := FPieceOf.binds (ps := ["self", "text"]) fun _ _ _ _ _ _ us hl => match us, hl with | [_, _], _ => rfl
  have MPieceOf : Met K C "piece_of" "Joins.piece_of" sPieceOf fPieceOf _ ["self", "text"] := ⟨FPieceOf, ⟨aPieceOf, iPieceOf, kPieceOf⟩, bPieceOf⟩
  refine ⟨PySem.W.fnOf "law" "law" (defArgs sLaw) (defBody sLaw) (defScope sLaw) .none kVLaw dcLaw pmLaw anLaw cdLaw ctLaw, fun s v => .of_eq rfl, fun base _ _ => ?_⟩
  have GBetween := ok_between (P := l.prog) (w := w) (base := base) FBetween B
  have GIsAlph := ok_isAlph (P := l.prog) (w := w) (base := base) FIsAlph B hM
  have GChecked := ok_checked FChecked CIsAlph GIsAlph
  have GPut := ok_put (P := l.prog) (w := w) (base := base) FPut B
  have GLowest := ok_lowest (P := l.prog) (w := w) (base := base) FLowest B
  have GCutRow := ok_cutRow FCutRow CLowest GLowest CPut GPut
  have GIsPiece := ok_isPiece FIsPiece T B CBetween GBetween
  have GCheck := ok_check FCheck T MIsPiece GIsPiece
  have GParts := ok_parts FParts T B MCheck GCheck
  have GPieceOf := ok_pieceOf (P := l.prog) (w := w) (base := base) FPieceOf T
  have GProper := ok_proper FProper T B hL CBetween GBetween CCutRow GCutRow
  have GTake := ok_take FTake T B MProper GProper
  have GInit := ok_init FInit T B CChecked GChecked MTake GTake
  have GRight := ok_Right FRight T B MParts GParts
  have GLeft := ok_Left FLeft T B MParts GParts
  have GCross := ok_cross FCross T CRight GRight CLeft GLeft
  have GSide := ok_side FSide CCross GCross
  have GLetters := ok_letters FLetters T B MPieceOf GPieceOf
  have GCut := ok_cut FCut T B CLetters GLetters CCutRow GCutRow
  have GNumbers := ok_numbers (P := l.prog) (w := w) (base := base) FNumbers B
  have GSame0 := ok_same0 (P := l.prog) (w := w) (base := base) FSame B
  have GSame1 := ok_same1 CSame B GSame0
  have GAlph := ok_alph (P := l.prog) (w := w) (base := base) FAlph B
  have GJoinAll := ok_joinAll (P := l.prog) (w := w) (base := base) FJoinAll B
  have GStaged := ok_staged FStaged B CJoinAll GJoinAll
  have GLLetters := ok_lletters (P := l.prog) (w := w) (mg := mg) (base := base) FLLetters
  have GLProper := ok_lproper FLProper B CStaged GStaged CLLetters GLLetters
  have GList := ok_list FList B CLProper GLProper
  have GChain := ok_chain FChain B CLProper GLProper
  have GEnds := ok_ends (P := l.prog) (w := w) (base := base) FEnds B
  have GFirst := ok_first FFirst B CJoinAll GJoinAll CLLetters GLLetters CEnds GEnds
  exact ok_law FLaw T B ⟨CNumbers, GNumbers, CAlph, GAlph, CList, GList, CChain, GChain, ⟨mkC, aInit, iInit, kcC⟩, bInit, GInit, CStaged, GStaged, CLLetters, GLLetters, CFirst, GFirst, CSame, GSame0, GSame1, CCross, GCross, CSide, GSide, CCut, GCut⟩
theorem walk {l : PySem.W.OpenLaw} {q : Program} {loose : List Str} {XP : (Str → Option Value) → Heap → Prop} {YP : World → Heap → Prop} {d : DefRec} {K : Params → PySem.W.Frag} (hn : l.most = some 63) (hdf : d.params.defaults = [])
    (hY : ∀ (w : World) (h : Heap), YP w h → (K w.params).In h)
    (F : ∀ (w : World) (mg : Str → Option Value) (fa : Addr) (h : Heap), (K w.params).In h → h.Ns mainGlobals mg → mg d.name = some (.ref fa) →
      ∃ fd : FuncData, (∀ (s : Shared) (u : Value), BindsTo s fd ⟨[u], []⟩ [("_law_script", u)]) ∧ ∀ base : Heap, (K w.params).In base → base.Ns mainGlobals mg → FnOk l.prog w (K w.params) mg base CX0 8 fa fd ["_law_script"] (spLaw (K w.params))) :
    PySem.W.WalkO q loose XP YP l.row.toRowW d [] (fun f vs => PySem.call f vs) :=
  L2.walk_of (n := 63) (k := 8) (x := "_law_script") (CX := fun _ => CX0) (sp := fun w => spLaw (K w.params)) hn (by decide) hdf ⟨rfl, by decide, by decide⟩ hY F (fun _ _ a ns hl _ hS => ⟨a, ns, rfl, hS, hl, fun _ => rfl⟩) fun _ _ _ _ _ z => z
end RJ
open PySem PySem.W PyProof.Rows
set_option maxRecDepth 100000 in
set_option maxHeartbeats 0 in
theorem PySem.Challenge.cw_rankedjoins_k18_whole_pairs_are_told_by_holds : PySem.Challenge.rw_rankedjoins_k18_whole_pairs_are_told_by.Holds := by
  w_on; o_law; k_head; (case hw => w_witness2)
  k_fill
  refine RJ.walk (l := PySem.Challenge.rw_rankedjoins_k18_whole_pairs_are_told_by) rfl rfl (fun w h Y => PySem.W.kIn_of Y) ?F
  case F =>
    intro w mg fa h KX G hmg
    refine' RJ.all_mk KX G hmg ?aC ?aBetween ?lBetween ?cBetween ?kBetween ?aIsAlph ?lIsAlph ?cIsAlph ?kIsAlph ?aChecked ?lChecked ?cChecked ?kChecked ?aPut ?lPut ?cPut ?kPut ?aLowest ?lLowest ?cLowest ?kLowest ?aCutRow ?lCutRow ?cCutRow ?kCutRow ?aRight ?lRight ?cRight ?kRight ?aLeft ?lLeft ?cLeft ?kLeft ?aCross ?lCross ?cCross ?kCross ?aSide ?lSide ?cSide ?kSide ?aLetters ?lLetters ?cLetters ?kLetters ?aCut ?lCut ?cCut ?kCut ?aNumbers ?lNumbers ?cNumbers ?kNumbers ?aSame ?lSame ?cSame ?kSame ?aAlph ?lAlph ?cAlph ?kAlph ?aJoinAll ?lJoinAll ?cJoinAll ?kJoinAll ?aStaged ?lStaged ?cStaged ?kStaged ?aLLetters ?lLLetters ?cLLetters ?kLLetters ?aLProper ?lLProper ?cLProper ?kLProper ?aList ?lList ?cList ?kList ?aChain ?lChain ?cChain ?kChain ?aEnds ?lEnds ?cEnds ?kEnds ?aFirst ?lFirst ?cFirst ?kFirst ?aLaw ?lLaw ?cLaw ?kLaw ?aInit ?iInit ?lInit ?cInit ?kInit ?aTake ?iTake ?lTake ?cTake ?kTake ?aProper ?iProper ?lProper ?cProper ?kProper ?aIsPiece ?iIsPiece ?lIsPiece ?cIsPiece ?kIsPiece ?aCheck ?iCheck ?lCheck ?cCheck ?kCheck ?aParts ?iParts ?lParts ?cParts ?kParts ?aPieceOf ?iPieceOf ?lPieceOf ?cPieceOf ?kPieceOf ?pgC ?hdC ?poC ?saC ?mkC ?kcC ?nA ?nP ?nT ?nR ?nN ?nL ?z_len ?z_isinstance ?z_int ?z_bool ?z_str ?z_tuple ?z_list ?z_range ?z_min ?z_max ?z_abs ?z_enumerate ?z_sorted ?gM ?gL
    (case aC => k_is)
    (case aBetween => k_is)
    (case lBetween => k_is)
    (case cBetween => k_is)
    (case kBetween => k_is)
    (case aIsAlph => k_is)
    (case lIsAlph => k_is)
    (case cIsAlph => k_is)
    (case kIsAlph => k_is)
    (case aChecked => k_is)
    (case lChecked => k_is)
    (case cChecked => k_is)
    (case kChecked => k_is)
    (case aPut => k_is)
    (case lPut => k_is)
    (case cPut => k_is)
    (case kPut => k_is)
    (case aLowest => k_is)
    (case lLowest => k_is)
    (case cLowest => k_is)
    (case kLowest => k_is)
    (case aCutRow => k_is)
    (case lCutRow => k_is)
    (case cCutRow => k_is)
    (case kCutRow => k_is)
    (case aRight => k_is)
    (case lRight => k_is)
    (case cRight => k_is)
    (case kRight => k_is)
    (case aLeft => k_is)
    (case lLeft => k_is)
    (case cLeft => k_is)
    (case kLeft => k_is)
    (case aCross => k_is)
    (case lCross => k_is)
    (case cCross => k_is)
    (case kCross => k_is)
    (case aSide => k_is)
    (case lSide => k_is)
    (case cSide => k_is)
    (case kSide => k_is)
    (case aLetters => k_is)
    (case lLetters => k_is)
    (case cLetters => k_is)
    (case kLetters => k_is)
    (case aCut => k_is)
    (case lCut => k_is)
    (case cCut => k_is)
    (case kCut => k_is)
    (case aNumbers => k_is)
    (case lNumbers => k_is)
    (case cNumbers => k_is)
    (case kNumbers => k_is)
    (case aSame => k_is)
    (case lSame => k_is)
    (case cSame => k_is)
    (case kSame => k_is)
    (case aAlph => k_is)
    (case lAlph => k_is)
    (case cAlph => k_is)
    (case kAlph => k_is)
    (case aJoinAll => k_is)
    (case lJoinAll => k_is)
    (case cJoinAll => k_is)
    (case kJoinAll => k_is)
    (case aStaged => k_is)
    (case lStaged => k_is)
    (case cStaged => k_is)
    (case kStaged => k_is)
    (case aLLetters => k_is)
    (case lLLetters => k_is)
    (case cLLetters => k_is)
    (case kLLetters => k_is)
    (case aLProper => k_is)
    (case lLProper => k_is)
    (case cLProper => k_is)
    (case kLProper => k_is)
    (case aList => k_is)
    (case lList => k_is)
    (case cList => k_is)
    (case kList => k_is)
    (case aChain => k_is)
    (case lChain => k_is)
    (case cChain => k_is)
    (case kChain => k_is)
    (case aEnds => k_is)
    (case lEnds => k_is)
    (case cEnds => k_is)
    (case kEnds => k_is)
    (case aFirst => k_is)
    (case lFirst => k_is)
    (case cFirst => k_is)
    (case kFirst => k_is)
    (case aLaw => k_is)
    (case lLaw => k_is)
    (case cLaw => k_is)
    (case kLaw => k_is)
    (case aInit => k_is)
    (case iInit => k_is)
    (case lInit => k_is)
    (case cInit => k_is)
    (case kInit => k_is)
    (case aTake => k_is)
    (case iTake => k_is)
    (case lTake => k_is)
    (case cTake => k_is)
    (case kTake => k_is)
    (case aProper => k_is)
    (case iProper => k_is)
    (case lProper => k_is)
    (case cProper => k_is)
    (case kProper => k_is)
    (case aIsPiece => k_is)
    (case iIsPiece => k_is)
    (case lIsPiece => k_is)
    (case cIsPiece => k_is)
    (case kIsPiece => k_is)
    (case aCheck => k_is)
    (case iCheck => k_is)
    (case lCheck => k_is)
    (case cCheck => k_is)
    (case kCheck => k_is)
    (case aParts => k_is)
    (case iParts => k_is)
    (case lParts => k_is)
    (case cParts => k_is)
    (case kParts => k_is)
    (case aPieceOf => k_is)
    (case iPieceOf => k_is)
    (case lPieceOf => k_is)
    (case cPieceOf => k_is)
    (case kPieceOf => k_is)
    (case pgC => k_is)
    (case hdC => k_is)
    (case poC => k_is)
    (case saC => k_is)
    (case mkC => k_is)
    (case kcC => k_is)
    (case nA => k_is)
    (case nP => k_is)
    (case nT => k_is)
    (case nR => k_is)
    (case nN => k_is)
    (case nL => k_is)
    (case z_len => k_is)
    (case z_isinstance => k_is)
    (case z_int => k_is)
    (case z_bool => k_is)
    (case z_str => k_is)
    (case z_tuple => k_is)
    (case z_list => k_is)
    (case z_range => k_is)
    (case z_min => k_is)
    (case z_max => k_is)
    (case z_abs => k_is)
    (case z_enumerate => k_is)
    (case z_sorted => k_is)
    (case gM => k_is)
    (case gL => k_is)
