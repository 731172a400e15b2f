import PyProof.Rows.All
import Wide.All
import OpenK.AllK
import Wide.FinOn
import HandS.ForMost
import HandS.IsInst
import HandS.DictComp
import HandS.Rev
import HandS.RevRange
import HandS.TupAny
import HandS.Conv
import HandS.Deep
import HandS.Wide
import HandS.More
import HandS.Flow
import HandS.Walk
import KE.GoesMore
import PySem.Challenge.RW_rankedjoins_k31_whole_behind_any_edits
set_option linter.all false
/-! Rankedjoins, the plain law: rows of pieces, greedy merging by ranked joins, the cut, side by side, tails. No program here. -/
namespace Rj

/-- one pass of the join (x, y) -> z from left to right -/
def jn (x y z : Nat) : List Nat → List Nat
  | [] => []
  | [a] => [a]
  | a :: c :: t => if a = x ∧ c = y then z :: jn x y z t else a :: jn x y z (c :: t)

/-- the pieces z taken apart -/
def um (x y z : Nat) : List Nat → List Nat
  | [] => []
  | a :: t => if a = z then x :: y :: um x y z t else a :: um x y z t

theorem um_append (x y z : Nat) (A B : List Nat) : um x y z (A ++ B) = um x y z A ++ um x y z B := by
  induction A with
  | nil => rfl
  | cons a t ih => simp only [List.cons_append, um]; split <;> simp [ih]

theorem um_id {x y z : Nat} {R : List Nat} (h : ∀ a ∈ R, a ≠ z) : um x y z R = R := by
  induction R with
  | nil => rfl
  | cons a t ih =>
    simp only [um]
    rw [if_neg (h a (by simp)), ih (fun b hb => h b (by simp [hb]))]

/-- the head of a piece when z is taken apart -/
def hz (x z c : Nat) : Nat := if c = z then x else c

theorem um_head {x y z c : Nat} {t : List Nat} : (um x y z (c :: t)).head? = some (hz x z c) := by
  simp only [um, hz]; split <;> rfl

/-- no neighbors that the pass would have joined -/
def Red (x y z : Nat) : List Nat → Prop
  | [] => True
  | [_] => True
  | a :: c :: t => ¬ (a = x ∧ hz x z c = y) ∧ Red x y z (c :: t)

theorem jn_um {x y z : Nat} (hx : x ≠ z) : ∀ {R : List Nat}, Red x y z R → jn x y z (um x y z R) = R
  | [], _ => rfl
  | [a], _ => by
    simp only [um]
    split
    · rename_i h; subst h; simp [jn]
    · simp [jn]
  | a :: c :: t, h => by
    obtain ⟨h1, h2⟩ := h
    have ih := jn_um hx h2
    by_cases e : a = z
    · subst e
      have : um x y a (a :: c :: t) = x :: y :: um x y a (c :: t) := by simp [um]
      rw [this]
      simp [jn, ih]
    · have e1 : um x y z (a :: c :: t) = a :: um x y z (c :: t) := by rw [um, if_neg e]
      rw [e1]
      have hd := @um_head x y z c t
      cases hu : um x y z (c :: t) with
      | nil => rw [hu] at hd; cases hd
      | cons d u =>
        rw [hu] at hd ih
        have hd' : d = hz x z c := by simpa using hd
        rw [jn, if_neg (by rw [hd']; exact h1), ih]

theorem um_jn {x y z : Nat} : ∀ {R : List Nat}, (∀ a ∈ R, a ≠ z) → um x y z (jn x y z R) = R
  | [], _ => rfl
  | [a], h => um_id h
  | a :: c :: t, h => by
    rw [jn]
    split
    · rename_i e
      obtain ⟨rfl, rfl⟩ := e
      have ih := @um_jn a c z t (fun b hb => h b (by simp [hb]))
      simp [um, ih]
    · have ih := @um_jn x y z (c :: t) (fun b hb => h b (List.mem_cons_of_mem _ hb))
      rw [um, if_neg (h a (by simp)), ih]

theorem jn_head {x y z c : Nat} {t : List Nat} (hc : c ≠ z) : ∃ d u, jn x y z (c :: t) = d :: u ∧ hz x z d = c := by
  cases t with
  | nil => exact ⟨c, [], rfl, by simp [hz, hc]⟩
  | cons e t =>
    rw [jn]
    split
    · rename_i h; exact ⟨z, _, rfl, by simp [hz, h.1]⟩
    · exact ⟨c, _, rfl, by simp [hz, hc]⟩

theorem red_jn {x y z : Nat} (hx : x ≠ z) : ∀ {R : List Nat}, (∀ a ∈ R, a ≠ z) → Red x y z (jn x y z R)
  | [], _ => trivial
  | [a], _ => trivial
  | a :: c :: t, h => by
    rw [jn]
    split
    · have ih := @red_jn x y z hx t (fun b hb => h b (by simp [hb]))
      cases hm : jn x y z t with
      | nil => trivial
      | cons d u =>
        rw [hm] at ih
        exact ⟨fun q => hx q.1.symm, ih⟩
    · rename_i hn
      have ih := @red_jn x y z hx (c :: t) (fun b hb => h b (List.mem_cons_of_mem _ hb))
      obtain ⟨d, u, e, e2⟩ := @jn_head x y z c t (h c (by simp))
      rw [e] at ih ⊢
      exact ⟨fun q => hn ⟨q.1, by rw [← e2]; exact q.2⟩, ih⟩

theorem jn_mem {x y z : Nat} : ∀ {R : List Nat} {a : Nat}, a ∈ jn x y z R → a = z ∨ a ∈ R
  | [], _, h => by cases h
  | [c], _, h => .inr h
  | c :: d :: t, a, h => by
    rw [jn] at h
    split at h
    · rcases List.mem_cons.mp h with e | h
      · exact .inl e
      · rcases jn_mem h with e | e
        · exact .inl e
        · exact .inr (by simp [e])
    · rcases List.mem_cons.mp h with e | h
      · exact .inr (by simp [e])
      · rcases jn_mem h with e | e
        · exact .inl e
        · exact .inr (List.mem_cons_of_mem _ e)

theorem um_mem {x y z : Nat} : ∀ {R : List Nat} {a : Nat}, a ∈ um x y z R → a = x ∨ a = y ∨ (a ∈ R ∧ a ≠ z)
  | [], _, h => by cases h
  | c :: t, a, h => by
    rw [um] at h
    split at h
    · rcases List.mem_cons.mp h with e | h
      · exact .inl e
      · rcases List.mem_cons.mp h with e | h
        · exact .inr (.inl e)
        · rcases um_mem h with e | e | e
          · exact .inl e
          · exact .inr (.inl e)
          · exact .inr (.inr ⟨List.mem_cons_of_mem _ e.1, e.2⟩)
    · rename_i hn
      rcases List.mem_cons.mp h with e | h
      · subst e; exact .inr (.inr ⟨by simp, hn⟩)
      · rcases um_mem h with e | e | e
        · exact .inl e
        · exact .inr (.inl e)
        · exact .inr (.inr ⟨List.mem_cons_of_mem _ e.1, e.2⟩)

theorem um_ne {x y z : Nat} {R : List Nat} (h : R ≠ []) : um x y z R ≠ [] := by
  cases R with
  | nil => exact absurd rfl h
  | cons a t => rw [um]; split <;> simp

theorem jn_ne {x y z : Nat} {R : List Nat} (h : R ≠ []) : jn x y z R ≠ [] := by
  cases R with
  | nil => exact absurd rfl h
  | cons a t =>
    cases t with
    | nil => simp [jn]
    | cons c t => rw [jn]; split <;> simp

theorem red_append {x y z : Nat} : ∀ {A B : List Nat}, A ≠ [] → B ≠ [] →
    (Red x y z (A ++ B) ↔ Red x y z A ∧ Red x y z B ∧ ¬ (A.getLast? = some x ∧ (B.head?.map (hz x z)) = some y))
  | [], _, h, _ => absurd rfl h
  | [a], [], _, h => absurd rfl h
  | [a], c :: t, _, _ => by
    show (¬ (a = x ∧ hz x z c = y) ∧ Red x y z (c :: t)) ↔ _
    simp only [Red, true_and, List.getLast?_singleton, List.head?_cons, Option.map_some, Option.some.injEq]
    exact And.comm
  | a :: d :: u, B, _, hB => by
    have ih := @red_append x y z (d :: u) B (by simp) hB
    show (¬ (a = x ∧ hz x z d = y) ∧ Red x y z ((d :: u) ++ B)) ↔ ((¬ (a = x ∧ hz x z d = y) ∧ Red x y z (d :: u)) ∧ _)
    rw [ih, List.getLast?_cons_cons]
    exact ⟨fun ⟨p, q, r, s⟩ => ⟨⟨p, q⟩, r, s⟩, fun ⟨⟨p, q⟩, r, s⟩ => ⟨p, q, r, s⟩⟩

section
variable (pr : Nat → Nat × Nat) (b : Nat)

/-- the row behind the joins of the first r ranks -/
def stR : Nat → List Nat → List Nat
  | 0, R => R
  | r + 1, R => jn (pr r).1 (pr r).2 (b + r) (stR r R)

/-- the row with the pieces of rank t or higher (below n) taken apart -/
def spN (t : Nat) : Nat → List Nat → List Nat
  | 0, R => R
  | n + 1, R => if n + 1 ≤ t then R else spN t n (um (pr n).1 (pr n).2 (b + n) R)

def Wf (n : Nat) : Prop := ∀ r, r < n → (pr r).1 < b + r ∧ (pr r).2 < b + r
def Lt (n : Nat) (R : List Nat) : Prop := ∀ a ∈ R, a < b + n
end

section
variable {pr : Nat → Nat × Nat} {b : Nat}

theorem Lt.mono {m n : Nat} {R : List Nat} (h : Lt b m R) (hm : m ≤ n) : Lt b n R := fun a ha => by have := h a ha; omega
theorem Lt.append {n : Nat} {A B : List Nat} (h : Lt b n A) (h' : Lt b n B) : Lt b n (A ++ B) := fun a ha => by
  rcases List.mem_append.mp ha with q | q
  · exact h a q
  · exact h' a q

theorem stR_lt {L : List Nat} (h : Lt b 0 L) : ∀ r, Lt b r (stR pr b r L)
  | 0 => h
  | r + 1 => fun a ha => by
    rcases jn_mem ha with e | e
    · omega
    · have := stR_lt h r a e; omega
theorem stR_ne {L : List Nat} (h : L ≠ []) : ∀ r, stR pr b r L ≠ []
  | 0 => h
  | r + 1 => jn_ne (stR_ne h r)
theorem stR_nil : ∀ r, stR pr b r [] = []
  | 0 => rfl
  | r + 1 => by rw [stR, stR_nil r]; rfl
theorem stR_single (a : Nat) : ∀ r, stR pr b r [a] = [a]
  | 0 => rfl
  | r + 1 => by rw [stR, stR_single a r]; rfl

theorem spN_le {t n : Nat} {R : List Nat} (h : n ≤ t) : spN pr b t n R = R := by
  cases n with
  | zero => rfl
  | succ n => rw [spN, if_pos h]
theorem spN_succ {t n : Nat} {R : List Nat} (h : t ≤ n) : spN pr b t (n + 1) R = spN pr b t n (um (pr n).1 (pr n).2 (b + n) R) := by
  rw [spN, if_neg (by omega)]
theorem spN_append (t : Nat) : ∀ (n : Nat) (A B : List Nat), spN pr b t n (A ++ B) = spN pr b t n A ++ spN pr b t n B
  | 0, _, _ => rfl
  | n + 1, A, B => by
    by_cases h : n + 1 ≤ t
    · rw [spN_le h, spN_le h, spN_le h]
    · rw [spN_succ (by omega), spN_succ (by omega), spN_succ (by omega), um_append, spN_append t n]
theorem spN_nil (t : Nat) : ∀ n, spN pr b t n [] = []
  | 0 => rfl
  | n + 1 => by
    by_cases h : n + 1 ≤ t
    · rw [spN_le h]
    · rw [spN_succ (by omega)]; exact spN_nil t n
theorem spN_ne (t : Nat) : ∀ (n : Nat) {R : List Nat}, R ≠ [] → spN pr b t n R ≠ []
  | 0, _, h => h
  | n + 1, R, h => by
    by_cases q : n + 1 ≤ t
    · rw [spN_le q]; exact h
    · rw [spN_succ (by omega)]; exact spN_ne t n (um_ne h)
theorem spN_step {t : Nat} : ∀ {n : Nat} {R : List Nat}, t < n → spN pr b t n R = um (pr t).1 (pr t).2 (b + t) (spN pr b (t + 1) n R)
  | 0, _, h => absurd h (by omega)
  | n + 1, R, h => by
    by_cases e : t = n
    · subst e
      rw [spN_succ (Nat.le_refl _), spN_le (Nat.le_refl _), spN_le (Nat.le_refl _)]
    · rw [spN_succ (by omega), spN_succ (by omega)]
      exact spN_step (by omega)
theorem spN_mono {t m : Nat} : ∀ {n : Nat} {R : List Nat}, m ≤ n → Lt b m R → spN pr b t n R = spN pr b t m R
  | 0, R, h, _ => by rw [show m = 0 by omega]
  | n + 1, R, h, hl => by
    by_cases e : m = n + 1
    · rw [e]
    · by_cases q : n + 1 ≤ t
      · rw [spN_le q, spN_le (by omega)]
      · rw [spN_succ (by omega), um_id (fun a ha => by have := hl a ha; omega)]
        exact spN_mono (by omega) hl
theorem spN_lt {t : Nat} : ∀ {n : Nat} {R : List Nat}, Wf pr b n → t ≤ n → Lt b n R → Lt b t (spN pr b t n R)
  | 0, R, _, h, hl => by rw [show t = 0 by omega]; exact hl
  | n + 1, R, w, h, hl => by
    by_cases q : n + 1 ≤ t
    · rw [spN_le q, show t = n + 1 by omega]; exact hl
    · rw [spN_succ (by omega)]
      refine spN_lt (fun r hr => w r (by omega)) (by omega) fun a ha => ?_
      have wn := w n (by omega)
      rcases um_mem ha with e | e | ⟨e, e'⟩
      · omega
      · omega
      · have := hl a e; omega

/-- taking the cut apart gives the stages -/
theorem sp_cut {L : List Nat} (h : Lt b 0 L) : ∀ {n : Nat} (d r : Nat), r + d = n → spN pr b r n (stR pr b n L) = stR pr b r L
  | n, 0, r, e => by rw [spN_le (by omega), show r = n by omega]
  | n, d + 1, r, e => by
    rw [spN_step (by omega), sp_cut h d (r + 1) (by omega), stR]
    exact um_jn fun a ha => by have := stR_lt h r a ha; omega
theorem red_cut {L : List Nat} {n : Nat} (w : Wf pr b n) (h : Lt b 0 L) {r : Nat} (hr : r < n) :
    Red (pr r).1 (pr r).2 (b + r) (spN pr b (r + 1) n (stR pr b n L)) := by
  rw [sp_cut h (n - (r + 1)) (r + 1) (by omega), stR]
  exact red_jn (by have := w r hr; omega) fun a ha => by have := stR_lt h r a ha; omega
/-- a row that is reduced at each stage is the cut of its letters -/
theorem cut_red {R : List Nat} {n : Nat} (w : Wf pr b n) (h : ∀ r, r < n → Red (pr r).1 (pr r).2 (b + r) (spN pr b (r + 1) n R)) :
    ∀ r, r ≤ n → stR pr b r (spN pr b 0 n R) = spN pr b r n R
  | 0, _ => rfl
  | r + 1, hr => by
    rw [stR, cut_red w h r (by omega), spN_step (show r < n by omega)]
    exact jn_um (by have := w r (by omega); omega) (h r (by omega))
end

section
variable (pr : Nat → Nat × Nat) (b n : Nat)
def lastP (t p : Nat) : Option Nat := (spN pr b t n [p]).getLast?
def headP (t p : Nat) : Option Nat := (spN pr b t n [p]).head?
/-- the cut of the text of the two is these two -/
def sbs (p q : Nat) : Prop := ∀ r, r < n → ¬ (lastP pr b n (r + 1) p = some (pr r).1 ∧ headP pr b n r q = some (pr r).2)
def Adj : List Nat → Prop
  | [] => True
  | [_] => True
  | a :: c :: t => sbs pr b n a c ∧ Adj (c :: t)
/-- the piece is the cut of its letters -/
def Good (p : Nat) : Prop := ∀ r, r < n → Red (pr r).1 (pr r).2 (b + r) (spN pr b (r + 1) n [p])
/-- the letters of a row -/
def lets (R : List Nat) : List Nat := spN pr b 0 n R
/-- the cut of letters -/
def cutL (L : List Nat) : List Nat := stR pr b n L
end
section
variable {pr : Nat → Nat × Nat} {b n : Nat}
theorem head_um {x y z : Nat} : ∀ {R : List Nat}, (um x y z R).head? = R.head?.map (hz x z)
  | [] => rfl
  | c :: t => by rw [um_head]; rfl
theorem head_app {A B : List Nat} (h : A ≠ []) : (A ++ B).head? = A.head? := by
  cases A with
  | nil => exact absurd rfl h
  | cons a t => rfl
theorem red_row : ∀ {R : List Nat}, (∀ p ∈ R, Good pr b n p) →
    ((∀ r, r < n → Red (pr r).1 (pr r).2 (b + r) (spN pr b (r + 1) n R)) ↔ Adj pr b n R)
  | [], _ => ⟨fun _ => trivial, fun _ r _ => by rw [spN_nil]; trivial⟩
  | [p], g => ⟨fun _ => trivial, fun _ => g p (by simp)⟩
  | p :: q :: t, g => by
    have ih := @red_row (q :: t) (fun a ha => g a (List.mem_cons_of_mem _ ha))
    have key : ∀ r, r < n → (Red (pr r).1 (pr r).2 (b + r) (spN pr b (r + 1) n (p :: q :: t)) ↔
        Red (pr r).1 (pr r).2 (b + r) (spN pr b (r + 1) n (q :: t)) ∧ ¬ (lastP pr b n (r + 1) p = some (pr r).1 ∧ headP pr b n r q = some (pr r).2)) := fun r hr => by
      have e1 : spN pr b (r + 1) n (p :: q :: t) = spN pr b (r + 1) n [p] ++ spN pr b (r + 1) n (q :: t) := spN_append _ _ [p] (q :: t)
      rw [e1, red_append (spN_ne _ _ (by simp)) (spN_ne _ _ (by simp))]
      have e2 : (spN pr b (r + 1) n (q :: t)).head?.map (hz (pr r).1 (b + r)) = headP pr b n r q := by
        rw [headP, spN_step hr, head_um]
        have e3 : spN pr b (r + 1) n (q :: t) = spN pr b (r + 1) n [q] ++ spN pr b (r + 1) n t := spN_append _ _ [q] t
        rw [e3, head_app (spN_ne _ _ (by simp))]
      rw [e2]
      exact ⟨fun ⟨_, a, c⟩ => ⟨a, c⟩, fun ⟨a, c⟩ => ⟨g p (by simp) r hr, a, c⟩⟩
    constructor
    · intro h
      exact ⟨fun r hr => ((key r hr).mp (h r hr)).2, ih.mp fun r hr => ((key r hr).mp (h r hr)).1⟩
    · rintro ⟨h1, h2⟩ r hr
      exact (key r hr).mpr ⟨ih.mpr h2 r hr, h1 r hr⟩
end

section
variable {pr : Nat → Nat × Nat} {b n : Nat}

theorem lets_append (A B : List Nat) : lets pr b n (A ++ B) = lets pr b n A ++ lets pr b n B := spN_append _ _ _ _
theorem lets_cut {L : List Nat} (h : Lt b 0 L) : lets pr b n (cutL pr b n L) = L := sp_cut h n 0 (by omega)
theorem lets_lt {R : List Nat} (w : Wf pr b n) (h : Lt b n R) : Lt b 0 (lets pr b n R) := spN_lt w (by omega) h
theorem lets_ne {R : List Nat} (h : R ≠ []) : lets pr b n R ≠ [] := spN_ne _ _ h
theorem cut_lt {L : List Nat} (h : Lt b 0 L) : Lt b n (cutL pr b n L) := stR_lt h n

/-- the list is proper: each pair is the cut of its letters by the joins below -/
def Proper (pr : Nat → Nat × Nat) (b n : Nat) : Prop :=
  Wf pr b n ∧ ∀ r, r < n → stR pr b r (lets pr b n [(pr r).1, (pr r).2]) = [(pr r).1, (pr r).2]

theorem lets_piece {k : Nat} (w : Wf pr b n) (hk : k < n) : lets pr b n [b + k] = lets pr b n [(pr k).1, (pr k).2] := by
  have wk := w k hk
  have h1 : lets pr b n [b + k] = spN pr b 0 (k + 1) [b + k] := spN_mono (by omega) fun a ha => by simp at ha; omega
  have h2 : lets pr b n [(pr k).1, (pr k).2] = spN pr b 0 k [(pr k).1, (pr k).2] := spN_mono (by omega) fun a ha => by simp at ha; omega
  rw [h1, h2, spN_succ (by omega)]
  simp [um]
theorem lets_letter {a : Nat} (h : a < b) : lets pr b n [a] = [a] := by
  have h1 : lets pr b n [a] = spN pr b 0 0 [a] := spN_mono (by omega) fun x hx => by simp at hx; omega
  rw [h1]; rfl

/-- the cut of a piece's letters is the piece -/
theorem cut_piece (P : Proper pr b n) {p : Nat} (hp : p < b + n) : cutL pr b n (lets pr b n [p]) = [p] := by
  obtain ⟨w, h⟩ := P
  by_cases hb : p < b
  · rw [lets_letter hb]; exact stR_single p n
  · obtain ⟨k, rfl⟩ : ∃ k, p = b + k := ⟨p - b, by omega⟩
    have hk : k < n := by omega
    rw [lets_piece w hk]
    have e := h k hk
    have e1 : stR pr b (k + 1) (lets pr b n [(pr k).1, (pr k).2]) = [b + k] := by
      rw [stR, e]; simp [jn]
    have : ∀ d, stR pr b (k + 1 + d) (lets pr b n [(pr k).1, (pr k).2]) = [b + k] := by
      intro d
      induction d with
      | zero => exact e1
      | succ d ih => rw [← Nat.add_assoc, stR, ih]; rfl
    have := this (n - (k + 1))
    rw [show k + 1 + (n - (k + 1)) = n by omega] at this
    exact this
theorem good_of (P : Proper pr b n) {p : Nat} (hp : p < b + n) : Good pr b n p := fun r hr => by
  have hl : Lt b n [p] := fun a ha => by simp at ha; omega
  have := red_cut P.1 (lets_lt P.1 hl) hr
  rw [show stR pr b n (lets pr b n [p]) = [p] from cut_piece P hp] at this
  exact this
/-- THE MAIN PROMISE: a row of pieces is the cut of its text iff every two neighbors are side by side -/
theorem cut_of_adj (P : Proper pr b n) {R : List Nat} (hl : Lt b n R) (h : Adj pr b n R) : cutL pr b n (lets pr b n R) = R := by
  have := cut_red P.1 ((red_row fun p hp => good_of P (hl p hp)).mpr h) n (Nat.le_refl _)
  rw [spN_le (Nat.le_refl _)] at this
  exact this
theorem adj_of_cut (P : Proper pr b n) {L : List Nat} (hl : Lt b 0 L) : Adj pr b n (cutL pr b n L) :=
  (red_row fun p hp => good_of P (cut_lt hl p hp)).mp fun r hr => red_cut P.1 hl hr

theorem Adj.left : ∀ {A B : List Nat}, Adj pr b n (A ++ B) → Adj pr b n A
  | [], _, _ => trivial
  | [_], _, _ => trivial
  | _ :: c :: t, B, h => ⟨h.1, Adj.left (A := c :: t) (B := B) h.2⟩
theorem adj_snoc : ∀ {A : List Nat} {p : Nat}, Adj pr b n (A ++ [p]) ↔ Adj pr b n A ∧ ∀ t, A.getLast? = some t → sbs pr b n t p
  | [], p => ⟨fun _ => ⟨trivial, fun t h => by cases h⟩, fun _ => trivial⟩
  | [a], p => ⟨fun h => ⟨trivial, fun t e => by simp at e; subst e; exact h.1⟩, fun h => ⟨h.2 a rfl, trivial⟩⟩
  | a :: c :: t, p => by
    have ih := @adj_snoc (c :: t) p
    show sbs pr b n a c ∧ Adj pr b n ((c :: t) ++ [p]) ↔ (sbs pr b n a c ∧ Adj pr b n (c :: t)) ∧ _
    rw [ih, List.getLast?_cons_cons]
    exact ⟨fun ⟨x, y, z⟩ => ⟨⟨x, y⟩, z⟩, fun ⟨⟨x, y⟩, z⟩ => ⟨x, y, z⟩⟩

/-! ### tails -/
/-- the last piece of the cut -/
def tail (pr : Nat → Nat × Nat) (b n : Nat) (L : List Nat) : Option Nat := (cutL pr b n L).getLast?

/-- an ending that stands side by side with the tail of what is ahead of it is the tail -/
theorem cut_snoc (P : Proper pr b n) {L1 : List Nat} {p : Nat} (h1 : Lt b 0 L1) (hp : p < b + n) (hs : ∀ t, tail pr b n L1 = some t → sbs pr b n t p) :
    cutL pr b n (L1 ++ lets pr b n [p]) = cutL pr b n L1 ++ [p] := by
  have e : L1 ++ lets pr b n [p] = lets pr b n (cutL pr b n L1 ++ [p]) := by rw [lets_append, lets_cut h1]
  rw [e]
  refine cut_of_adj P ((cut_lt h1).append fun a ha => by simp at ha; omega) (adj_snoc.mpr ⟨adj_of_cut P h1, hs⟩)
theorem tail_of (P : Proper pr b n) {L1 : List Nat} {p : Nat} (h1 : Lt b 0 L1) (hp : p < b + n) (hs : ∀ t, tail pr b n L1 = some t → sbs pr b n t p) :
    tail pr b n (L1 ++ lets pr b n [p]) = some p := by
  rw [tail, cut_snoc P h1 hp hs, List.getLast?_concat]
theorem cut_last (P : Proper pr b n) {L : List Nat} (h : Lt b 0 L) (hn : L ≠ []) :
    ∃ L1 p, L = L1 ++ lets pr b n [p] ∧ p < b + n ∧ tail pr b n L = some p ∧ cutL pr b n L = cutL pr b n L1 ++ [p] ∧ Lt b 0 L1 ∧ (∀ t, tail pr b n L1 = some t → sbs pr b n t p) := by
  have hc : cutL pr b n L ≠ [] := stR_ne hn n
  obtain ⟨R, p, e⟩ : ∃ R p, cutL pr b n L = R ++ [p] := ⟨_, _, (List.dropLast_concat_getLast hc).symm⟩
  have hl := cut_lt (pr := pr) (n := n) h
  rw [e] at hl
  have ha := adj_of_cut P h
  rw [e] at ha
  have hR : Lt b n R := fun a q => hl a (by simp [q])
  have cR : cutL pr b n (lets pr b n R) = R := cut_of_adj P hR ha.left
  have eL := lets_cut (pr := pr) (n := n) h
  rw [e, lets_append] at eL
  refine ⟨lets pr b n R, p, eL.symm, hl p (by simp), by rw [tail, e, List.getLast?_concat], by rw [e, cR], lets_lt P.1 hR, fun t ht => ?_⟩
  rw [tail, cR] at ht
  exact (adj_snoc.mp ha).2 t ht
theorem lets_inj (P : Proper pr b n) {p q : Nat} (hp : p < b + n) (hq : q < b + n) (e : lets pr b n [p] = lets pr b n [q]) : p = q := by
  have h1 := cut_piece P hp
  have h2 := cut_piece P hq
  rw [e, h2] at h1
  simpa using h1.symm
end

end Rj

set_option linter.all false
/-! Rankedjoins, the plain law, second part: lists of pairs, spines, the lowest pair, texts, tails of all beginnings. -/
namespace Rj

/-- the pair of a rank -/
def prf (ps : List (Nat × Nat)) (r : Nat) : Nat × Nat := ps.getD r (0, 0)
theorem prf_app {ps qs : List (Nat × Nat)} {r : Nat} (h : r < ps.length) : prf (ps ++ qs) r = prf ps r := by
  simp [prf, List.getD_eq_getElem?_getD, List.getElem?_append_left h]
theorem prf_last {ps : List (Nat × Nat)} {q : Nat × Nat} : prf (ps ++ [q]) ps.length = q := by
  simp [prf, List.getD_eq_getElem?_getD]
theorem prf_get {ps : List (Nat × Nat)} {r : Nat} (h : r < ps.length) : ps[r]? = some (prf ps r) := by
  simp [prf, List.getD_eq_getElem?_getD, h]

section
variable {pr pr' : Nat → Nat × Nat} {b : Nat}
theorem stR_congr : ∀ {r : Nat} {L : List Nat}, (∀ i, i < r → pr i = pr' i) → stR pr b r L = stR pr' b r L
  | 0, _, _ => rfl
  | r + 1, L, h => by rw [stR, stR, stR_congr (fun i hi => h i (by omega)), h r (by omega)]
theorem spN_congr {t : Nat} : ∀ {n : Nat} {R : List Nat}, (∀ i, i < n → pr i = pr' i) → spN pr b t n R = spN pr' b t n R
  | 0, _, _ => rfl
  | n + 1, R, h => by
    rw [spN, spN, h n (by omega)]
    split
    · rfl
    · exact spN_congr fun i hi => h i (by omega)
end

/-- a proper list over b letters, its pieces of at most 40 letters -/
structure JP (b : Nat) (ps : List (Nat × Nat)) : Prop where
  proper : Proper (prf ps) b ps.length
  short : ∀ r, r < ps.length → (lets (prf ps) b ps.length [(prf ps r).1, (prf ps r).2]).length ≤ 40

/-- the letters of a piece -/
def ex (b : Nat) (ps : List (Nat × Nat)) (p : Nat) : List Nat := lets (prf ps) b ps.length [p]
/-- the cut of letters by the list -/
def cutP (b : Nat) (ps : List (Nat × Nat)) (L : List Nat) : List Nat := cutL (prf ps) b ps.length L

section
variable {b : Nat} {ps : List (Nat × Nat)}
theorem JP.nil : JP b [] := ⟨⟨fun r h => absurd h (by simp), fun r h => absurd h (by simp)⟩, fun r h => absurd h (by simp)⟩
theorem ex_app {q : Nat × Nat} {p : Nat} (h : p < b + ps.length) : ex b (ps ++ [q]) p = ex b ps p := by
  unfold ex lets
  rw [show (ps ++ [q]).length = ps.length + 1 by simp, spN_mono (m := ps.length) (by omega) (fun a ha => by simp at ha; omega)]
  exact spN_congr fun i hi => prf_app hi
theorem ex_letter {a : Nat} (h : a < b) : ex b ps a = [a] := lets_letter h
theorem ex_pair {x y : Nat} : lets (prf ps) b ps.length [x, y] = ex b ps x ++ ex b ps y := lets_append [x] [y]
theorem ex_new {x y : Nat} (hx : x < b + ps.length) (hy : y < b + ps.length) : ex b (ps ++ [(x, y)]) (b + ps.length) = ex b ps x ++ ex b ps y := by
  have e : ex b (ps ++ [(x, y)]) (b + ps.length) = spN (prf (ps ++ [(x, y)])) b 0 (ps.length + 1) [b + ps.length] := by
    unfold ex lets; rw [show (ps ++ [(x, y)]).length = ps.length + 1 by simp]
  rw [e, spN_succ (by omega), prf_last]
  have e2 : um x y (b + ps.length) [b + ps.length] = [x, y] := by simp [um]
  rw [e2, ← ex_pair]
  exact spN_congr fun i hi => prf_app hi
theorem cutP_app {q : Nat × Nat} {L : List Nat} : stR (prf (ps ++ [q])) b ps.length L = cutP b ps L := stR_congr fun i hi => prf_app hi
/-- one more join -/
theorem JP.snoc (J : JP b ps) {x y : Nat} (hx : x < b + ps.length) (hy : y < b + ps.length) (hs : (ex b ps x ++ ex b ps y).length ≤ 40) (hc : cutP b ps (ex b ps x ++ ex b ps y) = [x, y]) : JP b (ps ++ [(x, y)]) := by
  have hl : (ps ++ [(x, y)]).length = ps.length + 1 := by simp
  have key : ∀ r, r < ps.length → lets (prf (ps ++ [(x, y)])) b (ps.length + 1) [(prf ps r).1, (prf ps r).2] = lets (prf ps) b ps.length [(prf ps r).1, (prf ps r).2] := fun r hr => by
    have w := J.proper.1 r hr
    unfold lets
    rw [spN_mono (m := ps.length) (by omega) (fun a ha => by simp at ha; omega)]
    exact spN_congr fun i hi => prf_app hi
  have last : lets (prf (ps ++ [(x, y)])) b (ps.length + 1) [x, y] = ex b ps x ++ ex b ps y := by
    rw [← ex_pair]
    unfold lets
    rw [spN_mono (m := ps.length) (by omega) (fun a ha => by simp at ha; omega)]
    exact spN_congr fun i hi => prf_app hi
  refine ⟨⟨fun r hr => ?_, fun r hr => ?_⟩, fun r hr => ?_⟩ <;> rw [hl] at hr
  · by_cases e : r = ps.length
    · subst e; rw [prf_last]; exact ⟨hx, hy⟩
    · rw [prf_app (by omega)]; exact J.proper.1 r (by omega)
  · rw [hl]
    by_cases e : r = ps.length
    · subst e; rw [prf_last]
      show stR _ b ps.length (lets _ b (ps.length + 1) [x, y]) = [x, y]
      rw [last, cutP_app]; exact hc
    · rw [prf_app (by omega), key r (by omega), stR_congr (fun i hi => prf_app (show i < ps.length by omega))]
      exact J.proper.2 r (by omega)
  · rw [hl]
    by_cases e : r = ps.length
    · subst e; rw [prf_last]
      show (lets _ b (ps.length + 1) [x, y]).length ≤ 40
      rw [last]; exact hs
    · rw [prf_app (by omega), key r (by omega)]; exact J.short r (by omega)

theorem ex_lt (J : JP b ps) {p : Nat} (hp : p < b + ps.length) : ∀ a ∈ ex b ps p, a < b := fun a ha => by
  have := lets_lt J.proper.1 (R := [p]) (fun a ha => by simp at ha; omega) a ha
  omega
theorem ex_ne (p : Nat) : ex b ps p ≠ [] := lets_ne (by simp)
theorem ex_pos (p : Nat) : 0 < (ex b ps p).length := List.length_pos_iff.mpr (ex_ne p)
theorem ex_rank (J : JP b ps) {k : Nat} (hk : k < ps.length) : ex b ps (b + k) = ex b ps (prf ps k).1 ++ ex b ps (prf ps k).2 := by
  rw [← ex_pair]; exact lets_piece J.proper.1 hk
theorem ex_short (J : JP b ps) {p : Nat} (hp : p < b + ps.length) : (ex b ps p).length ≤ 40 := by
  by_cases h : p < b
  · rw [ex_letter h]; simp
  · obtain ⟨k, rfl⟩ : ∃ k, p = b + k := ⟨p - b, by omega⟩
    rw [ex_rank J (by omega), ← ex_pair]
    exact J.short k (by omega)
theorem ex_inj (J : JP b ps) {p q : Nat} (hp : p < b + ps.length) (hq : q < b + ps.length) (e : ex b ps p = ex b ps q) : p = q := lets_inj J.proper hp hq e
theorem pairs_inj (J : JP b ps) {r s : Nat} (hr : r < ps.length) (hs : s < ps.length) (e : prf ps r = prf ps s) : r = s := by
  have h1 : ex b ps (b + r) = ex b ps (b + s) := by rw [ex_rank J hr, ex_rank J hs, e]
  have := ex_inj J (by omega) (by omega) h1
  omega
/-- the new pair is none of the list -/
theorem pair_new (J : JP b ps) {x y : Nat} (hc : cutP b ps (ex b ps x ++ ex b ps y) = [x, y]) {r : Nat} (hr : r < ps.length) : prf ps r ≠ (x, y) := fun e => by
  have h1 := cut_piece J.proper (p := b + r) (by omega)
  have h2 : lets (prf ps) b ps.length [b + r] = ex b ps x ++ ex b ps y := by
    have := ex_rank J hr
    rw [e] at this; exact this
  rw [h2] at h1
  have h3 : cutL (prf ps) b ps.length (ex b ps x ++ ex b ps y) = [x, y] := hc
  rw [h3] at h1
  cases h1
/-- the new text is none of the list -/
theorem text_new (J : JP b ps) {x y : Nat} (hc : cutP b ps (ex b ps x ++ ex b ps y) = [x, y]) {p : Nat} (hp : p < b + ps.length) : ex b ps p ≠ ex b ps x ++ ex b ps y := fun e => by
  have h1 := cut_piece J.proper hp
  rw [show lets (prf ps) b ps.length [p] = ex b ps x ++ ex b ps y from e, show cutL (prf ps) b ps.length (ex b ps x ++ ex b ps y) = [x, y] from hc] at h1
  cases h1
end

/-! ### spines -/
section
variable (sd : Nat × Nat → Nat) (ps : List (Nat × Nat)) (b : Nat)
/-- behind a piece: its part on this side, the rank of its join, and so on (so many steps at most) -/
def spF : Nat → Nat → List (Nat × Nat)
  | 0, _ => []
  | f + 1, p => if p < b then [] else (sd (prf ps (p - b)), p - b) :: spF f (sd (prf ps (p - b)))
def spine (p : Nat) : List (Nat × Nat) := spF sd ps b (p + 1) p
end
/-- a side of a pair -/
def IsSide (sd : Nat × Nat → Nat) : Prop := sd = Prod.fst ∨ sd = Prod.snd
section
variable {sd : Nat × Nat → Nat} {ps : List (Nat × Nat)} {b : Nat}
theorem side_lt (hs : IsSide sd) (w : Wf (prf ps) b ps.length) {r : Nat} (hr : r < ps.length) : sd (prf ps r) < b + r := by
  rcases hs with e | e <;> rw [e]
  · exact (w r hr).1
  · exact (w r hr).2
theorem spF_more (hs : IsSide sd) (w : Wf (prf ps) b ps.length) : ∀ (f g p : Nat), p < b + ps.length → p < f → p < g → spF sd ps b f p = spF sd ps b g p
  | 0, _, _, _, h, _ => absurd h (by omega)
  | _, 0, _, _, _, h => absurd h (by omega)
  | f + 1, g + 1, p, hp, hf, hg => by
    rw [spF, spF]
    split
    · rfl
    · have := side_lt hs w (r := p - b) (by omega)
      rw [spF_more hs w f g _ (by omega) (by omega) (by omega)]
theorem spine_letter {p : Nat} (h : p < b) : spine sd ps b p = [] := by rw [spine, spF, if_pos h]
theorem spine_rank (hs : IsSide sd) (w : Wf (prf ps) b ps.length) {k : Nat} (hk : k < ps.length) : spine sd ps b (b + k) = (sd (prf ps k), k) :: spine sd ps b (sd (prf ps k)) := by
  rw [spine, spF, if_neg (by omega), show b + k - b = k by omega]
  have := side_lt hs w hk
  rw [spF_more hs w (b + k) _ _ (by omega) (by omega) (Nat.lt_succ_self _)]
  rfl
theorem spine_bound (hs : IsSide sd) (w : Wf (prf ps) b ps.length) : ∀ (p : Nat), p < b + ps.length → ∀ e ∈ spine sd ps b p, b + e.2 ≤ p ∧ e.2 < ps.length ∧ e.1 < b + ps.length := by
  intro p
  induction p using Nat.strongRecOn with
  | _ p ih =>
    intro hp e he
    by_cases h : p < b
    · rw [spine_letter h] at he; cases he
    · obtain ⟨k, rfl⟩ : ∃ k, p = b + k := ⟨p - b, by omega⟩
      have hk : k < ps.length := by omega
      have hl := side_lt hs w hk
      rw [spine_rank hs w hk] at he
      rcases List.mem_cons.mp he with rfl | he
      · exact ⟨Nat.le_refl _, hk, by show sd (prf ps k) < _; omega⟩
      · have := ih _ (by omega) (by omega) e he
        omega
/-- the ending (beginning) of a piece taken apart, by its spine -/
theorem spine_ends (hs : IsSide sd) (w : Wf (prf ps) b ps.length) {t : Nat} {f : Nat → Option Nat} (base : ∀ p, p < b + t → f p = some p) (step : ∀ k, t ≤ k → k < ps.length → f (b + k) = f (sd (prf ps k))) :
    ∀ (p : Nat), p < b + ps.length → ∀ x, x < b + t → (f p = some x ↔ x = p ∨ ∃ k, (x, k) ∈ spine sd ps b p ∧ t ≤ k) := by
  intro p
  induction p using Nat.strongRecOn with
  | _ p ih =>
    intro hp x hx
    by_cases h : p < b + t
    · rw [base p h]
      refine ⟨fun e => .inl (by cases e; rfl), fun e => ?_⟩
      rcases e with rfl | ⟨k, hk, ht⟩
      · rfl
      · have := spine_bound hs w p hp _ hk
        simp at this; omega
    · obtain ⟨k, rfl⟩ : ∃ k, p = b + k := ⟨p - b, by omega⟩
      have hk : k < ps.length := by omega
      have hl := side_lt hs w hk
      rw [step k (by omega) hk, ih _ (by omega) (by omega) x hx, spine_rank hs w hk]
      constructor
      · rintro (rfl | ⟨j, hj, hjt⟩)
        · exact .inr ⟨k, by simp, by omega⟩
        · exact .inr ⟨j, List.mem_cons_of_mem _ hj, hjt⟩
      · rintro (rfl | ⟨j, hj, hjt⟩)
        · exact absurd hx h
        · rcases List.mem_cons.mp hj with e | hj
          · cases e; exact .inl rfl
          · exact .inr ⟨j, hj, hjt⟩
end

section
variable {b : Nat} {ps : List (Nat × Nat)}
theorem spN_rank (w : Wf (prf ps) b ps.length) {t k : Nat} (ht : t ≤ k) (hk : k < ps.length) : spN (prf ps) b t ps.length [b + k] = spN (prf ps) b t ps.length [(prf ps k).1, (prf ps k).2] := by
  have wk := w k hk
  have h1 : spN (prf ps) b t ps.length [b + k] = spN (prf ps) b t (k + 1) [b + k] := spN_mono (by omega) fun a ha => by simp at ha; omega
  have h2 : spN (prf ps) b t ps.length [(prf ps k).1, (prf ps k).2] = spN (prf ps) b t k [(prf ps k).1, (prf ps k).2] := spN_mono (by omega) fun a ha => by simp at ha; omega
  rw [h1, h2, spN_succ ht]
  simp [um]
theorem lastP_lt {t p : Nat} (h : p < b + t) (ht : t ≤ ps.length) : lastP (prf ps) b ps.length t p = some p := by
  have : spN (prf ps) b t ps.length [p] = spN (prf ps) b t t [p] := spN_mono ht fun a ha => by simp at ha; omega
  rw [lastP, this, spN_le (Nat.le_refl _)]; rfl
theorem headP_lt {t p : Nat} (h : p < b + t) (ht : t ≤ ps.length) : headP (prf ps) b ps.length t p = some p := by
  have : spN (prf ps) b t ps.length [p] = spN (prf ps) b t t [p] := spN_mono ht fun a ha => by simp at ha; omega
  rw [headP, this, spN_le (Nat.le_refl _)]; rfl
theorem last_app {A B : List Nat} (h : B ≠ []) : (A ++ B).getLast? = B.getLast? := by
  rw [List.getLast?_append]
  cases hb : B.getLast? with
  | none => exact absurd (List.getLast?_eq_none_iff.mp hb) h
  | some v => rfl
theorem lastP_rank (w : Wf (prf ps) b ps.length) {t k : Nat} (ht : t ≤ k) (hk : k < ps.length) : lastP (prf ps) b ps.length t (b + k) = lastP (prf ps) b ps.length t (prf ps k).2 := by
  rw [lastP, spN_rank w ht hk]
  have : spN (prf ps) b t ps.length [(prf ps k).1, (prf ps k).2] = spN (prf ps) b t ps.length [(prf ps k).1] ++ spN (prf ps) b t ps.length [(prf ps k).2] := spN_append _ _ [_] [_]
  rw [this, last_app (spN_ne _ _ (by simp))]; rfl
theorem headP_rank (w : Wf (prf ps) b ps.length) {t k : Nat} (ht : t ≤ k) (hk : k < ps.length) : headP (prf ps) b ps.length t (b + k) = headP (prf ps) b ps.length t (prf ps k).1 := by
  rw [headP, spN_rank w ht hk]
  have : spN (prf ps) b t ps.length [(prf ps k).1, (prf ps k).2] = spN (prf ps) b t ps.length [(prf ps k).1] ++ spN (prf ps) b t ps.length [(prf ps k).2] := spN_append _ _ [_] [_]
  rw [this, head_app (spN_ne _ _ (by simp))]; rfl

/-- the spine as the program writes it: the piece itself without a bound, then its parts with theirs -/
def spineO (sd : Nat × Nat → Nat) (ps : List (Nat × Nat)) (b p : Nat) : List (Nat × Option Nat) := (p, none) :: (spine sd ps b p).map fun e => (e.1, some e.2)
/-- below a bound, if there is one -/
def ltO (r : Nat) : Option Nat → Prop
  | none => True
  | some k => r < k
def leO (r : Nat) : Option Nat → Prop
  | none => True
  | some k => r ≤ k
/-- a join of rank r crosses at these two places of the spines -/
def Crs (ps : List (Nat × Nat)) (e f : Nat × Option Nat) (r : Nat) : Prop := r < ps.length ∧ prf ps r = (e.1, f.1) ∧ ltO r e.2 ∧ leO r f.2
theorem spineO_iff {sd : Nat × Nat → Nat} {p x : Nat} {c : Option Nat → Prop} (hc : c none) : (∃ k, (x, k) ∈ spineO sd ps b p ∧ c k) ↔ x = p ∨ ∃ k, (x, k) ∈ spine sd ps b p ∧ c (some k) := by
  unfold spineO
  constructor
  · rintro ⟨k, hk, h⟩
    rcases List.mem_cons.mp hk with e | hk
    · cases e; exact .inl rfl
    · obtain ⟨e, he, e2⟩ := List.mem_map.mp hk
      cases e2
      exact .inr ⟨e.2, he, h⟩
  · rintro (rfl | ⟨k, hk, h⟩)
    · exact ⟨none, by simp, hc⟩
    · exact ⟨some k, List.mem_cons_of_mem _ (List.mem_map.mpr ⟨(x, k), hk, rfl⟩), h⟩
/-- crossing tells side by side -/
theorem sbs_iff (w : Wf (prf ps) b ps.length) {p q : Nat} (hp : p < b + ps.length) (hq : q < b + ps.length) :
    sbs (prf ps) b ps.length p q ↔ ∀ e ∈ spineO Prod.snd ps b p, ∀ f ∈ spineO Prod.fst ps b q, ∀ r, ¬ Crs ps e f r := by
  have right : ∀ r, r < ps.length → (lastP (prf ps) b ps.length (r + 1) p = some (prf ps r).1 ↔ ∃ k, ((prf ps r).1, k) ∈ spineO Prod.snd ps b p ∧ ltO r k) := fun r hr => by
    rw [spineO_iff trivial, spine_ends (.inr rfl) w (fun x hx => lastP_lt hx (by omega)) (fun k h1 h2 => lastP_rank w h1 h2) p hp _ (by have := w r hr; omega)]
    rfl
  have left : ∀ r, r < ps.length → (headP (prf ps) b ps.length r q = some (prf ps r).2 ↔ ∃ k, ((prf ps r).2, k) ∈ spineO Prod.fst ps b q ∧ leO r k) := fun r hr => by
    rw [spineO_iff trivial, spine_ends (.inl rfl) w (fun x hx => headP_lt hx (by omega)) (fun k h1 h2 => headP_rank w h1 h2) q hq _ (w r hr).2]
    rfl
  constructor
  · rintro h ⟨x, xb⟩ he ⟨y, yb⟩ hf r ⟨hr, e, h1, h2⟩
    have e1 : (prf ps r).1 = x := by rw [e]
    have e2 : (prf ps r).2 = y := by rw [e]
    exact h r hr ⟨(right r hr).mpr ⟨xb, by rw [e1]; exact he, h1⟩, (left r hr).mpr ⟨yb, by rw [e2]; exact hf, h2⟩⟩
  · rintro h r hr ⟨a, c⟩
    obtain ⟨k, hk, h1⟩ := (right r hr).mp a
    obtain ⟨j, hj, h2⟩ := (left r hr).mp c
    exact h _ hk _ hj r ⟨hr, rfl, h1, h2⟩
end

/-! ### the lowest pair -/
/-- the two stand side by side somewhere in the row -/
def Nb (x y : Nat) (R : List Nat) : Prop := ∃ i : Nat, R[i]? = some x ∧ R[i + 1]? = some y
theorem nb_cons {x y a c : Nat} {t : List Nat} : Nb x y (a :: c :: t) ↔ (a = x ∧ c = y) ∨ Nb x y (c :: t) := by
  constructor
  · rintro ⟨i, h1, h2⟩
    cases i with
    | zero => simp at h1 h2; exact .inl ⟨h1, h2⟩
    | succ i => exact .inr ⟨i, by simpa using h1, by simpa using h2⟩
  · rintro (⟨rfl, rfl⟩ | ⟨i, h1, h2⟩)
    · exact ⟨0, rfl, rfl⟩
    · exact ⟨i + 1, by simpa using h1, by simpa using h2⟩
theorem nb_one {x y a : Nat} : ¬ Nb x y [a] := fun ⟨i, _, h⟩ => by cases i <;> simp at h
theorem nb_nil {x y : Nat} : ¬ Nb x y [] := fun ⟨i, h, _⟩ => by simp at h
theorem jn_no {x y z : Nat} : ∀ {R : List Nat}, ¬ Nb x y R → jn x y z R = R
  | [], _ => rfl
  | [_], _ => rfl
  | a :: c :: t, h => by
    rw [nb_cons] at h
    rw [jn, if_neg fun q => h (.inl q), jn_no fun q => h (.inr q)]
theorem jn_len {x y z : Nat} : ∀ {R : List Nat}, Nb x y R → (jn x y z R).length < R.length
  | [], h => absurd h nb_nil
  | [_], h => absurd h nb_one
  | a :: c :: t, h => by
    have le : ∀ {R : List Nat}, (jn x y z R).length ≤ R.length := by
      intro R
      induction R using jn.induct x y with
      | case1 => simp [jn]
      | case2 => simp [jn]
      | case3 a c t h ih => rw [jn, if_pos h]; simp; omega
      | case4 a c t h ih => rw [jn, if_neg h]; simp at ih ⊢; omega
    rw [jn]
    split
    · have := @le t; simp; omega
    · rename_i hn
      rw [nb_cons] at h
      have := jn_len (z := z) (h.resolve_left hn)
      simp at this ⊢; omega
theorem jn_le {x y z : Nat} (R : List Nat) : (jn x y z R).length ≤ R.length := by
  by_cases h : Nb x y R
  · exact Nat.le_of_lt (jn_len h)
  · rw [jn_no h]; exact Nat.le_refl _
/-- what stands side by side behind a pass and is not new stood so ahead of it -/
theorem nb_jn {x y z u v : Nat} (hu : u ≠ z) (hv : v ≠ z) : ∀ {R : List Nat}, (∀ a ∈ R, a ≠ z) → Nb u v (jn x y z R) → Nb u v R
  | [], _, h => h
  | [_], _, h => h
  | a :: c :: t, hR, h => by
    rw [jn] at h
    split at h
    · rename_i e
      cases hm : jn x y z t with
      | nil => rw [hm] at h; exact absurd h nb_one
      | cons d w =>
        rw [hm, nb_cons] at h
        rcases h with ⟨e, _⟩ | h
        · exact absurd e.symm hu
        · rw [← hm] at h
          obtain ⟨i, h1, h2⟩ := nb_jn hu hv (fun a ha => hR a (by simp [ha])) h
          exact ⟨i + 1 + 1, by simpa using h1, by simpa using h2⟩
    · obtain ⟨d, w, e, e2⟩ := @jn_head x y z c t (hR c (by simp))
      rw [e, nb_cons] at h
      rcases h with ⟨rfl, rfl⟩ | h
      · rw [hz, if_neg hv] at e2
        exact nb_cons.mpr (.inl ⟨rfl, e2.symm⟩)
      · rw [← e] at h
        exact nb_cons.mpr (.inr (nb_jn hu hv (fun a ha => hR a (List.mem_cons_of_mem _ ha)) h))
theorem red_nb {x y z : Nat} (hy : y ≠ z) : ∀ {R : List Nat}, Red x y z R → ¬ Nb x y R
  | [], _, h => nb_nil h
  | [_], _, h => nb_one h
  | a :: c :: t, h, q => by
    rw [nb_cons] at q
    rcases q with ⟨rfl, rfl⟩ | q
    · exact h.1 ⟨rfl, by rw [hz, if_neg hy]⟩
    · exact red_nb hy h.2 q
section
variable {pr : Nat → Nat × Nat} {b : Nat}
theorem st_no {L : List Nat} (hL : Lt b 0 L) : ∀ {t : Nat}, Wf pr b t → ∀ r, r < t → ¬ Nb (pr r).1 (pr r).2 (stR pr b t L)
  | 0, _, r, h => absurd h (by omega)
  | t + 1, w, r, h => by
    have wr := w r (by omega)
    have wt := w t (by omega)
    have hs := stR_lt (pr := pr) hL t
    by_cases e : r = t
    · subst e
      exact red_nb (by omega) (red_jn (by omega) fun a ha => by have := hs a ha; omega)
    · intro q
      exact st_no hL (fun i hi => w i (by omega)) r (by omega) (nb_jn (by omega) (by omega) (fun a ha => by have := hs a ha; omega) q)
theorem st_skip {L : List Nat} : ∀ {d t : Nat}, (∀ r, t ≤ r → r < t + d → ¬ Nb (pr r).1 (pr r).2 (stR pr b t L)) → stR pr b (t + d) L = stR pr b t L
  | 0, _, _ => rfl
  | d + 1, t, h => by
    rw [← Nat.add_assoc, stR, st_skip (fun r h1 h2 => h r h1 (by omega))]
    exact jn_no (h (t + d) (by omega) (by omega))
end

end Rj

set_option linter.all false
/-! Rankedjoins, the plain law, third part: tails of all beginnings, the chain, the law's own stack, edits. -/
namespace Rj
section
variable {b : Nat} {ps : List (Nat × Nat)}
/-- the tail of letters that are not none -/
def tl (b : Nat) (ps : List (Nat × Nat)) (L : List Nat) : Nat := (tail (prf ps) b ps.length L).getD 0
/-- side by side -/
def sb (b : Nat) (ps : List (Nat × Nat)) (p q : Nat) : Prop := sbs (prf ps) b ps.length p q
/-- all are letters -/
def Ls (b : Nat) (L : List Nat) : Prop := ∀ a ∈ L, a < b
theorem Ls.lt {L : List Nat} (h : Ls b L) : Lt b 0 L := fun a ha => by have := h a ha; omega
theorem Ls.take {L : List Nat} (h : Ls b L) (i : Nat) : Ls b (L.take i) := fun a ha => h a (List.mem_of_mem_take ha)
theorem Ls.drop {L : List Nat} (h : Ls b L) (i : Nat) : Ls b (L.drop i) := fun a ha => h a (List.mem_of_mem_drop ha)
theorem Ls.append {A B : List Nat} (h : Ls b A) (h' : Ls b B) : Ls b (A ++ B) := fun a ha => (List.mem_append.mp ha).elim (h a) (h' a)
theorem Ls.nil : Ls b [] := fun a ha => by cases ha
theorem cutP_lt {L : List Nat} (h : Ls b L) : ∀ a ∈ cutP b ps L, a < b + ps.length := fun a ha => cut_lt h.lt a ha
theorem cutP_nil : cutP b ps [] = [] := stR_nil _
theorem tail_tl (J : JP b ps) {L : List Nat} (h : Ls b L) (hn : L ≠ []) : tail (prf ps) b ps.length L = some (tl b ps L) := by
  obtain ⟨_, p, _, _, e, _⟩ := cut_last J.proper h.lt hn
  rw [tl, e]; rfl
theorem tail_nil : tail (prf ps) b ps.length [] = none := by
  rw [tail, show cutL (prf ps) b ps.length [] = [] from stR_nil _]; rfl
theorem tl_lt (J : JP b ps) {L : List Nat} (h : Ls b L) (hn : L ≠ []) : tl b ps L < b + ps.length := by
  obtain ⟨_, p, _, hp, e, _⟩ := cut_last J.proper h.lt hn
  rw [tl, e]; exact hp
/-- an ending that next_tail takes -/
theorem cand_tail (J : JP b ps) {L : List Nat} (h : Ls b L) {i p : Nat} (hi : i < L.length) (hp : p < b + ps.length) (he : ex b ps p = L.drop i) (hs : i = 0 ∨ sb b ps (tl b ps (L.take i)) p) : tl b ps L = p := by
  have e : L = L.take i ++ lets (prf ps) b ps.length [p] := by
    rw [show lets (prf ps) b ps.length [p] = L.drop i from he, List.take_append_drop]
  have := tail_of J.proper (h.take i).lt hp fun t ht => ?_
  · rw [← e] at this
    rw [tl, this]; rfl
  · rcases hs with rfl | hs
    · rw [List.take_zero, tail_nil] at ht; cases ht
    · rw [tl, ht] at hs; exact hs
theorem cand_ex (J : JP b ps) {L : List Nat} (h : Ls b L) (hn : L ≠ []) : ∃ i p, i < L.length ∧ p < b + ps.length ∧ ex b ps p = L.drop i ∧ (i = 0 ∨ sb b ps (tl b ps (L.take i)) p) := by
  obtain ⟨L1, p, e, hp, ht, hc, hl, hs⟩ := cut_last J.proper h.lt hn
  have hd : L.drop L1.length = ex b ps p := by rw [e]; simp [ex]
  have htk : L.take L1.length = L1 := by rw [e]; simp
  have hlen : L.length = L1.length + (ex b ps p).length := by
    have := congrArg List.length e
    simpa [ex] using this
  have := ex_pos (b := b) (ps := ps) p
  refine ⟨L1.length, p, by omega, hp, hd.symm, ?_⟩
  by_cases h0 : L1 = []
  · exact .inl (by rw [h0]; rfl)
  · rw [htk]
    exact .inr (hs _ (tail_tl J (fun a ha => by have := hl a ha; omega) h0))
/-- the tails of all beginnings -/
def tailsP (b : Nat) (ps : List (Nat × Nat)) (L : List Nat) : List Nat := (List.range L.length).map fun i => tl b ps (L.take (i + 1))
theorem tailsP_len (L : List Nat) : (tailsP b ps L).length = L.length := by simp [tailsP]
theorem tailsP_get {L : List Nat} {i : Nat} (h : i < L.length) : (tailsP b ps L)[i]? = some (tl b ps (L.take (i + 1))) := by
  simp [tailsP, h]
theorem tailsP_take {L : List Nat} (k : Nat) : (tailsP b ps L).take k = tailsP b ps (L.take k) := by
  apply List.ext_getElem?
  intro i
  rw [List.getElem?_take]
  by_cases hi : i < k
  · rw [if_pos hi]
    by_cases hl : i < L.length
    · rw [tailsP_get hl, tailsP_get (by rw [List.length_take]; omega), List.take_take, Nat.min_eq_left (by omega)]
    · rw [List.getElem?_eq_none (by rw [tailsP_len]; omega), List.getElem?_eq_none (by rw [tailsP_len, List.length_take]; omega)]
  · rw [if_neg hi, List.getElem?_eq_none (by rw [tailsP_len, List.length_take]; omega)]
theorem tailsP_more {L : List Nat} {k : Nat} (h : k < L.length) : tailsP b ps (L.take (k + 1)) = tailsP b ps (L.take k) ++ [tl b ps (L.take (k + 1))] := by
  rw [← tailsP_take, ← tailsP_take, List.take_add_one, tailsP_get h]
  rfl
/-- one step back along the tails -/
theorem chain_step (J : JP b ps) {L : List Nat} (h : Ls b L) {e : Nat} (h0 : 0 < e) (he : e ≤ L.length) :
    (ex b ps (tl b ps (L.take e))).length ≤ e ∧ 0 < (ex b ps (tl b ps (L.take e))).length ∧ cutP b ps (L.take e) = cutP b ps (L.take (e - (ex b ps (tl b ps (L.take e))).length)) ++ [tl b ps (L.take e)] := by
  have hn : L.take e ≠ [] := fun q => by have := congrArg List.length q; rw [List.length_take, List.length_nil] at this; omega
  obtain ⟨L1, p, eq, hp, ht, hc, hl, hs⟩ := cut_last J.proper (h.take e).lt hn
  have etl : tl b ps (L.take e) = p := by rw [tl, ht]; rfl
  have hlen : e = L1.length + (ex b ps p).length := by
    have := congrArg List.length eq
    rw [List.length_take, List.length_append] at this
    simp only [ex]; omega
  have hL1 : L1 = L.take (e - (ex b ps p).length) := by
    have : (L.take e).take L1.length = L1 := by rw [eq]; simp
    rw [List.take_take, Nat.min_eq_left (by omega)] at this
    rw [show e - (ex b ps p).length = L1.length by omega]; exact this.symm
  rw [etl]
  refine ⟨by omega, ex_pos p, ?_⟩
  rw [← hL1]
  exact hc
end

/-! ### the law's own pass, by a stack -/
def stk (x y z : Nat) (out : List Nat) (a : Nat) : List Nat := if a = y ∧ out.getLast? = some x then out.dropLast ++ [z] else out ++ [a]
theorem jn_cons_ne {x y z a : Nat} {t : List Nat} (h : a ≠ x) : jn x y z (a :: t) = a :: jn x y z t := by
  cases t with
  | nil => rfl
  | cons c t => rw [jn, if_neg fun q => h q.1]
theorem stk_fold {x y z : Nat} (hx : x ≠ z) : ∀ (R : List Nat) (out : List Nat), (out.getLast? ≠ some x → R.foldl (stk x y z) out = out ++ jn x y z R) ∧ R.foldl (stk x y z) (out ++ [x]) = out ++ jn x y z (x :: R)
  | [], out => ⟨fun _ => by simp [jn], by simp [jn]⟩
  | a :: t, out => by
    constructor
    · intro h
      rw [List.foldl_cons]
      have e1 : stk x y z out a = out ++ [a] := by rw [stk, if_neg fun q => h q.2]
      rw [e1]
      by_cases e : a = x
      · subst e; exact (stk_fold hx t out).2
      · rw [(stk_fold hx t (out ++ [a])).1 (by rw [List.getLast?_concat]; intro q; cases q; exact e rfl), jn_cons_ne e]; simp
    · rw [List.foldl_cons]
      by_cases e : a = y
      · have e1 : stk x y z (out ++ [x]) a = out ++ [z] := by rw [stk, if_pos ⟨e, by rw [List.getLast?_concat]⟩, List.dropLast_concat]
        rw [e1, (stk_fold hx t (out ++ [z])).1 (by rw [List.getLast?_concat]; intro q; cases q; exact hx rfl), jn, if_pos ⟨rfl, e⟩]; simp
      · have e1 : stk x y z (out ++ [x]) a = out ++ [x] ++ [a] := by rw [stk, if_neg fun q => e q.1]
        rw [e1]
        have e2 : jn x y z (x :: a :: t) = x :: jn x y z (a :: t) := by rw [jn, if_neg fun q => e q.2]
        rw [e2]
        by_cases ea : a = x
        · subst ea; rw [(stk_fold hx t (out ++ [a])).2]; simp
        · rw [(stk_fold hx t (out ++ [x] ++ [a])).1 (by rw [List.getLast?_concat]; intro q; cases q; exact ea rfl), jn_cons_ne ea]; simp
theorem stk_jn {x y z : Nat} (hx : x ≠ z) (R : List Nat) : R.foldl (stk x y z) [] = jn x y z R := by
  have := (stk_fold (y := y) hx R []).1 (by simp)
  simpa using this

/-! ### edits: (place, letters taken out, letters put in) -/
abbrev Edit := Nat × List Nat × List Nat
/-- the edit leads from a text to another -/
def Ed (e : Edit) (A B : List Nat) : Prop := ∃ X Y, X.length = e.1 ∧ A = X ++ e.2.1 ++ Y ∧ B = X ++ e.2.2 ++ Y
def repl (L : List Nat) (i m : Nat) (T : List Nat) : List Nat := L.take i ++ T ++ L.drop (i + m)
theorem Ed.redo {e : Edit} {A B : List Nat} (h : Ed e A B) : repl A e.1 e.2.1.length e.2.2 = B ∧ e.1 + e.2.1.length ≤ A.length := by
  obtain ⟨X, Y, hX, rfl, rfl⟩ := h
  refine ⟨?_, by simp; omega⟩
  rw [repl, ← hX]
  have e1 : (X ++ e.2.1 ++ Y).take X.length = X := by rw [List.append_assoc, List.take_left]
  have e2 : (X ++ e.2.1 ++ Y).drop (X.length + e.2.1.length) = Y := by
    rw [← List.length_append, List.drop_left]
  rw [e1, e2]
theorem Ed.undo {e : Edit} {A B : List Nat} (h : Ed e A B) : repl B e.1 e.2.2.length e.2.1 = A ∧ e.1 + e.2.2.length ≤ B.length := by
  obtain ⟨X, Y, hX, rfl, rfl⟩ := h
  refine ⟨?_, by simp; omega⟩
  rw [repl, ← hX]
  have e1 : (X ++ e.2.2 ++ Y).take X.length = X := by rw [List.append_assoc, List.take_left]
  have e2 : (X ++ e.2.2 ++ Y).drop (X.length + e.2.2.length) = Y := by
    rw [← List.length_append, List.drop_left]
  rw [e1, e2]
theorem Ed.mk {L T : List Nat} {i m : Nat} (h : i + m ≤ L.length) : Ed (i, (L.drop i).take m, T) L (repl L i m T) := by
  refine ⟨L.take i, L.drop (i + m), by rw [List.length_take]; show min i L.length = i; omega, ?_, rfl⟩
  show L = L.take i ++ (L.drop i).take m ++ L.drop (i + m)
  rw [List.append_assoc, ← List.drop_drop, List.take_append_drop, List.take_append_drop]
/-- the edits lead back from a text through the texts told, the last one first -/
def Back : List Edit → List (List Nat) → List Nat → Prop
  | [], [], _ => True
  | e :: D, A :: B, L => Ed e A L ∧ Back D B A
  | _, _, _ => False
/-- .. and forth -/
def Forth : List Edit → List (List Nat) → List Nat → Prop
  | [], [], _ => True
  | e :: D, A :: B, L => Ed e L A ∧ Forth D B A
  | _, _, _ => False
theorem Back.len : ∀ {D : List Edit} {B : List (List Nat)} {L : List Nat}, Back D B L → D.length = B.length
  | [], [], _, _ => rfl
  | [], _ :: _, _, h => h.elim
  | _ :: _, [], _, h => h.elim
  | _ :: _, _ :: _, _, h => congrArg (· + 1) (Back.len h.2)
theorem Forth.len : ∀ {D : List Edit} {B : List (List Nat)} {L : List Nat}, Forth D B L → D.length = B.length
  | [], [], _, _ => rfl
  | [], _ :: _, _, h => h.elim
  | _ :: _, [], _, h => h.elim
  | _ :: _, _ :: _, _, h => congrArg (· + 1) (Forth.len h.2)

end Rj

set_option linter.all false
/-! Rankedjoins, the plain law, fourth part: beginnings of proper lists. -/
namespace Rj
section
variable {b : Nat} {A B : List (Nat × Nat)}
theorem lets_left {R : List Nat} (h : Lt b A.length R) : lets (prf (A ++ B)) b (A ++ B).length R = lets (prf A) b A.length R := by
  unfold lets
  rw [spN_mono (m := A.length) (by simp) h]
  exact spN_congr fun i hi => prf_app hi
theorem JP.left (J : JP b (A ++ B)) : JP b A := by
  have w : Wf (prf A) b A.length := fun r hr => by
    have := J.proper.1 r (by simp; omega)
    rw [prf_app hr] at this; exact this
  have lt2 : ∀ r, r < A.length → Lt b A.length [(prf A r).1, (prf A r).2] := fun r hr a ha => by
    have := w r hr
    simp at ha; omega
  refine ⟨⟨w, fun r hr => ?_⟩, fun r hr => ?_⟩
  · have := J.proper.2 r (by simp; omega)
    rw [prf_app hr, lets_left (lt2 r hr), stR_congr (fun i hi => prf_app (show i < A.length by omega))] at this
    exact this
  · have := J.short r (by simp; omega)
    rw [prf_app hr, lets_left (lt2 r hr)] at this
    exact this
theorem prf_mid {p : Nat × Nat} : prf (A ++ p :: B) A.length = p := by
  simp [prf, List.getD_eq_getElem?_getD]
theorem JP.next {p : Nat × Nat} (J : JP b (A ++ p :: B)) : p.1 < b + A.length ∧ p.2 < b + A.length ∧ (ex b A p.1 ++ ex b A p.2).length ≤ 40 ∧ cutP b A (ex b A p.1 ++ ex b A p.2) = [p.1, p.2] := by
  have w := J.proper.1 A.length (by simp)
  have h1 := J.proper.2 A.length (by simp)
  have h2 := J.short A.length (by simp)
  rw [prf_mid] at w h1 h2
  have lt2 : Lt b A.length [p.1, p.2] := fun a ha => by simp at ha; omega
  rw [lets_left lt2, ex_pair] at h1 h2
  refine ⟨w.1, w.2, h2, ?_⟩
  rw [stR_congr (fun i hi => prf_app hi)] at h1
  exact h1
end
end Rj

set_option Elab.async false
set_option linter.all false
set_option maxRecDepth 100000
namespace L2
open PySem PySem.Spec PyProof.Rows
section
variable {X : Cx}
/-- a text times a number -/
theorem op_mul_str : OpR X (binaryOp .Mult) (fun x y H Q => ∃ z n, x = .str z ∧ y = .int n ∧ 1 ≤ n ∧ n ≤ 1000 ∧ z.length ≤ 1000 ∧ Q (.str ⟨(List.replicate n.toNat z.cps).foldl (· ++ ·) #[]⟩) H) := by
  intro pins s σ H x y v u Q I rx ry h
  obtain ⟨z, n, rfl, rfl, h1, h2, hz, q⟩ := h
  obtain ⟨t, rfl⟩ := rx
  obtain ⟨t', rfl⟩ := ry
  have d1 : decide (n < -(2 ^ 63 : Int)) = false := decide_eq_false (by omega)
  have d2 : decide (n ≥ (2 : Int) ^ 63) = false := decide_eq_false (by omega)
  have fin : ∀ tk t'', EP X pins σ Q (.str ⟨(List.replicate n.toNat z.cps).foldl (· ++ ·) #[]⟩ t'') { s with toks := tk } := fun tk t'' => ⟨.str _, H, I.tok _, ⟨_, rfl⟩, q⟩
  have hlen : ∀ k : Nat, ((List.replicate k z.cps).foldl (· ++ ·) #[]).size = k * z.cps.size := by
    intro k
    have gen : ∀ (k : Nat) (a : Array Nat), ((List.replicate k z.cps).foldl (· ++ ·) a).size = a.size + k * z.cps.size := by
      intro k
      induction k with
      | zero => intro a; simp
      | succ k ih => intro a; rw [List.replicate_succ, List.foldl_cons, ih, Array.size_append, Nat.succ_mul]; omega
    rw [gen]; simp
  have hzl : z.cps.size ≤ 1000 := hz
  have prod : n.toNat * z.cps.size ≤ 1000 * 1000 := Nat.mul_le_mul (by omega) hzl
  refine P.mul_str (by rw [d1, d2]; rfl) (fun _ _ hc => ?_) (fun _ _ => ?_) ?_
  · have : (1000 : Int) < (2 ^ 63 - 1) / n := by
      have : (2 ^ 63 - 1 : Int) / 1000 ≤ (2 ^ 63 - 1) / n := by
        apply Int.le_ediv_of_mul_le (by omega)
        have h3 : (2 ^ 63 - 1 : Int) / 1000 * n ≤ (2 ^ 63 - 1 : Int) / 1000 * 1000 := Int.mul_le_mul_of_nonneg_left h2 (by decide)
        omega
      omega
    have hz2 : ((z.length : Nat) : Int) ≤ 1000 := by
      have := hz; omega
    omega
  · have : z.length * n.toNat ≤ 1000 * 1000 := Nat.mul_le_mul hz (by omega)
    unfold Builtin.Str.tooLong
    rw [sizeLine_eq]
    exact decide_eq_false (by omega)
  · rw [if_neg (by omega)]
    split
    · rename_i hc
      have hcc : n = 1 ∨ z.length = 0 := by simpa using hc
      have e : (⟨(List.replicate n.toNat z.cps).foldl (· ++ ·) #[]⟩ : Str) = z := by
        rcases hcc with e | e
        · rw [e]; show (⟨(List.replicate 1 z.cps).foldl (· ++ ·) #[]⟩ : Str) = z
          simp
        · have hs : ((List.replicate n.toNat z.cps).foldl (· ++ ·) #[]).size = 0 := by
            have e' : z.cps.size = 0 := e
            rw [hlen, e']; simp
          have a1 : (List.replicate n.toNat z.cps).foldl (· ++ ·) #[] = #[] := Array.eq_empty_of_size_eq_zero hs
          have a2 : z.cps = #[] := Array.eq_empty_of_size_eq_zero e
          rw [a1, ← a2]
      have := fin s.toks t
      rw [e] at this
      exact this
    · refine ⟨?_, fin _ _⟩
      show ((List.replicate n.toNat z.cps).foldl (· ++ ·) #[]).size ≤ _
      rw [hlen]
      first | (rw [sizeLine_eq]; omega) | omega


/-- list(text) -/
theorem vals_signs : ∀ (l : List Nat) (us : List Value), us.length = l.length → (∀ (j : Nat) v, us[j]? = some v → ∃ c u, l[j]? = some c ∧ v = Value.str ⟨#[c]⟩ u) → Vals (l.map fun c => V.str ⟨#[c]⟩) us
  | [], us, e, _ => by rw [List.length_eq_zero_iff.mp e]; exact .nil
  | c :: l, [], e, _ => by cases e
  | c :: l, v :: us, e, f => by
    obtain ⟨c', u', e1, e2⟩ := f 0 v rfl
    cases e1
    exact .cons ⟨u', e2⟩ (vals_signs l us (by simpa using e) fun j v' hj => f (j + 1) v' hj)
theorem call_list_text (hc : X.calm = true := by rfl) : CallR X (.type "list") (fun xs H Q => ∃ z : Str, xs = [.str z] ∧ z.length ≤ sizeLine ∧ ∀ l, H l = none → Q (.ref l) (upd H l (.lst (z.cps.toList.map fun c => V.str ⟨#[c]⟩)))) := fun pins s σ H xs us Q I r h => by
  obtain ⟨z, rfl, hz, q⟩ := h
  obtain ⟨u, rfl, t, rfl⟩ := vals1 r
  refine call_list_str (I.ok.hd hc) z t (hn := hz) fun h' tk acc c' hk hS hacc => ?_
  obtain ⟨a1, a2⟩ := hacc
  refine ⟨.ref s.heap.objs.size, _, I.laid (t' := tk) hk (Nat.le_refl _) (show ObjOk X.prog X.w _ h' _ (.lst (z.cps.toList.map fun c => V.str ⟨#[c]⟩)) from ⟨by rw [List.length_map]; exact hz, acc.toList, c', vals_signs _ _ (by simp [a1]) fun j v hj => ?_, by simpa using hS⟩), rfl, q _ (I.hok.fresh (Nat.le_refl _))⟩
  obtain ⟨c, u, e1, e2⟩ := a2 j v (by simpa using hj)
  exact ⟨c, u, by simpa using e1, e2⟩

/-- enumerate(text) -/
def IteS (x : Str) : It :=
  ⟨fun i _ => i < x.cps.size, fun i H v H' => ∃ T c, v = .ref T ∧ H T = none ∧ x.cps[i]? = some c ∧ H' = upd H T (.tup [.int (i : Nat), .str ⟨#[c]⟩]), fun i _ => i = x.cps.size⟩
theorem turn_enumS {P : Program} {w : World} {K : PySem.W.Frag} {elts : List Expr} {kk : Nat} {tpos : Pos} (x : Str) (t : Tok) (e it : Addr) :
    Turn P w K (.Tuple elts kk tpos) (IteS x) [e, it] e (fun i h => (∃ old, IsEnum h e it ((i : Nat) : Int) old) ∧ h.IsStrIter it (strIterType x) x t i ∧ e ≠ it) where
  mem := by simp
  obj := fun i h st b hb => by
    obtain ⟨⟨old, he⟩, ⟨o, ho, hc, hd⟩, _⟩ := st
    have e' : b = e ∨ b = it := by simpa using hb
    rcases e' with z | z
    · rw [z]; exact ⟨_, he, fun v q => nomatch q⟩
    · rw [z]; exact ⟨o, ho, fun v q => by rw [hd] at q; cases q⟩
  keep := fun i h h' st k => let ⟨⟨old, he⟩, ⟨o, ho, r⟩, hne⟩ := st; ⟨⟨old, k e (by simp) _ he⟩, ⟨o, k it (by simp) o ho, r⟩, hne⟩
  item := by
    intro X hP hw hK hc i pins s σ H E I hf st hg
    subst hP hw hK
    obtain ⟨⟨old, he⟩, hit, hne⟩ := st
    have hel : e < s.heap.objs.size := Heap.lt_size he
    have hil : it < s.heap.objs.size := by obtain ⟨_, q, _⟩ := hit; exact Heap.lt_size q
    refine wpAny_pyNext_enum_itemD (fp := [it]) (n := x.cps.size) (St := fun i h => h.IsStrIter it (strIterType x) x t i) (Draws.text (A := X.A.in1) (I.ok.hd hc) it x t) he hit hg hne (by simpa using hne) fun v h' tk hv ho hit' hT hsz hk => ?_
    obtain ⟨c, u, hcx, rfl⟩ := hv
    refine ⟨_, rfl, wpAny_letOwnedTupleGo_enum (s := { s with heap := h', toks := tk + 1 }) ho fun h'' he' sb => ?_⟩
    have hT2 : h''.get? s.heap.objs.size = some { cls := .type "tuple", data := .seq #[.int i tk, .str ⟨#[c]⟩ u] } := (sb.2 _ (Nat.ne_of_gt hel)).trans hT
    have new : ObjOk X.prog X.w (upd H s.heap.objs.size (.tup [.int (i : Nat), .str ⟨#[c]⟩])) h'' s.heap.objs.size (.tup [.int (i : Nat), .str ⟨#[c]⟩]) :=
      ⟨by show 2 ≤ sizeLine; decide, [.int i tk, .str ⟨#[c]⟩ u], .cons ⟨_, rfl⟩ (.cons ⟨_, rfl⟩ .nil), ⟨_, hT2, rfl, _, rfl⟩⟩
    have I1 : Inv X pins σ (upd H s.heap.objs.size (.tup [.int (i : Nat), .str ⟨#[c]⟩])) { s with heap := h'', toks := tk + 1 } :=
      I.turnedNew (ch := [e, it]) (fun b ob hb q => (sb.2 b (fun z => hb (by simp [z]))).trans (hk b ob (fun z => hb (by simp [z])) (fun z => hb (by simp [z])) q)) hf (Nat.le_refl _) new
    refine ⟨.ref s.heap.objs.size, _, I1, rfl, ⟨_, c, rfl, I.hok.fresh (Nat.le_refl _), hcx, rfl⟩, ⟨⟨.str ⟨#[c]⟩ u, ?_⟩, ?_, hne⟩, fun b hb => ?_⟩
    · have e1 : ((i + 1 : Nat) : Int) = (i : Int) + 1 := by omega
      rw [e1]; exact he'
    · obtain ⟨o, ho', r⟩ := hit'
      exact ⟨o, (sb.2 it (Ne.symm hne)).trans ho', r⟩
    · have hb' : b < s.heap.objs.size := by
        have e' : b = e ∨ b = it := by simpa using hb
        rcases e' with z | z
        · rw [z]; exact hel
        · rw [z]; exact hil
      rw [upd_ne (Nat.ne_of_lt hb')]
      exact (hf b hb).1
  done := by
    intro X hP hw hK hc i pins s σ H E I hf st hg
    subst hP hw hK
    obtain ⟨⟨old, he⟩, hit, hne⟩ := st
    obtain ⟨f0, f1, f2, f3, f4, f5⟩ := hf it (by simp)
    rw [show i = x.cps.size from hg] at hit
    exact wpAny_pyNext_enum_endD (fp := [it]) (n := x.cps.size) (St := fun i h => h.IsStrIter it (strIterType x) x t i) (Draws.text (A := X.A.in1) (I.ok.hd hc) it x t) he hit fun h' eb => ⟨rfl, I.turned (t' := s.toks) (fun b o hb q => eb b o hb q) f0 f1 f3 f4 f5⟩
  self := fun A i s Q E st h => let ⟨⟨_, he⟩, _⟩ := st; wpAny_pyIter_enum he h
def iEnumS (ta : TA) : TI := fun σ H R => ta σ H fun vs H1 => ∃ x, vs = [.str x] ∧ R (IteS x) H1
theorem pi_enumS {e : Expr} {ta : TA} {p pos tpos : Pos} {elts : List Expr} {kk : Nat} (hg : Gl X "enumerate") (hm : X.mg "enumerate" = none) (ha : PA X [e] ta) (hs : starEach [e] X.env = [(false, eval e X.env)] := by rfl) :
    PI X (.Tuple elts kk tpos) (.Call (.Name "enumerate" p) [e] [] pos) (iEnumS ta) := by
  refine ⟨fun pins s σ H R I h => ?_⟩
  refine Call_ (ld_blt I hg hm boot_enumerate (PyProof.Rows.callWith_type1 (thn (ha.run pos pins s σ H _ I h) fun us s1 ⟨vs, H1, I1, r1, q1⟩ => ?_) hs rfl))
  obtain ⟨x, ex, q⟩ := q1
  subst ex
  cases r1 with
  | cons r rr =>
    cases rr
    obtain ⟨t, rfl⟩ := r
    refine call_enumerate_str fun h' he hit hsz hk => wpAny_pyIter_enum he ?_
    have I2 : Inv X pins σ H1 { s1 with heap := h' } := I1.kept (t' := s1.toks) hk
    refine ⟨s1.heap.objs.size + 1, [s1.heap.objs.size + 1, s1.heap.objs.size], _, _, H1, rfl, I2, turn_enumS x t (s1.heap.objs.size + 1) s1.heap.objs.size, ⟨⟨.none, he⟩, hit, Nat.succ_ne_self _⟩, fun b hb => ?_, q⟩
    have e' : b = s1.heap.objs.size + 1 ∨ b = s1.heap.objs.size := by simpa using hb
    have hle : s1.heap.objs.size ≤ b := by
      rcases e' with z | z
      · rw [z]; exact Nat.le_add_right _ _
      · rw [z]; exact Nat.le_refl _
    exact I1.fpOk hle (I1.hok.fresh hle)

theorem walk_enumS {z : Str} : Walk (IteS z) z.cps.size (fun _ => True) (fun i H v H' => ∃ T c, v = .ref T ∧ H T = none ∧ z.cps[i]? = some c ∧ H' = upd H T (.tup [.int (i : Nat), .str ⟨#[c]⟩])) :=
  ⟨fun i H h _ => h, fun H _ => rfl, fun i H v H' _ _ h => h⟩
/-- len(o) of an instance of a class with a __len__ of its own -/
theorem call_lenO {C f : Addr} {fd : FuncData} {ps : List Str} {sp : Sp} {k : Nat} (hs : PySem.W.findIn X.K (.ref C) "__len__" = some (some (.ref f))) (hf : PySem.W.isFn X.K (.ref f) = true) (F : FnOk X.prog X.w X.K X.mg X.base CX0 k f fd ps sp)
    (hb : Binds X.K fd ps []) (hr : Room (k + 1) X.A) : CallR X (.builtin "len") (fun xs H Q => ∃ a dx fs, xs = [V.ref a] ∧ H a = some (.ins C dx fs) ∧ sp [.ref a] H (fun z H' => ∃ n : Int, 0 ≤ n ∧ n < 2 ^ 63 ∧ z = .int n ∧ Q z H') E0) := by
  intro pins s σ H xs us Q I r h
  obtain ⟨a, dx, fs, rfl, ha, q⟩ := h
  obtain ⟨u, rfl, ru⟩ := vals1 r
  cases (show u = Value.ref a from ru)
  obtain ⟨hown, _, hne, hobj, mA, hns, _, _⟩ := I.hok a _ ha
  obtain ⟨od, J, _⟩ := (show ObjM s.heap a dx C mA from ⟨hobj, hns, hne⟩).look
  obtain ⟨m, hF⟩ := I.fr
  have hl : [Value.ref a].length = ps.length := F.len [V.ref a] _ _ _ q
  refine PySem.W.len_K hF I.ok.mod.kin J hs hf ?_
  refine wpAny_call (codeAny_mono (F.run X.A.in1 X.stack s H ⟨[.ref a], []⟩ [.ref a] [.ref a] _ E0 hr.in1 I.env0.in1 (hb s [.ref a] I.kIn (by simpa using hl)) (.cons rfl .nil) q) fun r s' hq => ?_)
  cases r with
  | error e => exact hq.elim
  | ok fl =>
    cases fl with
    | next => exact False.elim hq
    | brk => exact False.elim hq
    | cont => exact False.elim hq
    | ret u =>
      obtain ⟨z, H', I', rz, n, n0, n1, ez, qz⟩ := I.after hq
      subst ez
      obtain ⟨t, e⟩ := (show ∃ t, u = Value.int n t from rz)
      subst e
      exact ⟨⟨n0, n1⟩, .int n, H', I'.tok _, ⟨_, rfl⟩, qz⟩
end
end L2

set_option Elab.async false
set_option linter.all false
set_option maxRecDepth 100000
namespace Rj
open PySem L2
/-! ### the text by places -/
def top (i : Nat) : Stmt := PySem.Challenge.pw_rankedjoins_k31_whole_behind_any_edits.main.body.getD i (.Pass ⟨0, 0, 0, 0⟩)
abbrev sBetween : Stmt := top 11
abbrev sIsAl : Stmt := top 12
abbrev sChkAl : Stmt := top 13
abbrev sPut : Stmt := top 14
abbrev sLow : Stmt := top 15
abbrev sCut : Stmt := top 16
abbrev sJInit : Stmt := inClass (top 17) 0
abbrev sTake : Stmt := inClass (top 17) 1
abbrev sProper : Stmt := inClass (top 17) 2
abbrev sIsPiece : Stmt := inClass (top 17) 4
abbrev sChk : Stmt := inClass (top 17) 5
abbrev sTextOf : Stmt := inClass (top 17) 6
abbrev sPartsOf : Stmt := inClass (top 17) 7
abbrev sPieceOf : Stmt := inClass (top 17) 9
abbrev sRSp : Stmt := top 19
abbrev sLSp : Stmt := top 20
abbrev sCross : Stmt := top 21
abbrev sSide : Stmt := top 22
abbrev sLetters : Stmt := top 24
abbrev sNextTail : Stmt := top 26
abbrev sChain : Stmt := top 27
abbrev sPInit : Stmt := inClass (top 29) 0
abbrev sReplace : Stmt := inClass (top 29) 1
abbrev sEdit : Stmt := inClass (top 29) 2
abbrev sContent : Stmt := inClass (top 29) 3
abbrev sCutRow : Stmt := inClass (top 29) 4
abbrev sPutIn : Stmt := inClass (top 29) 5
abbrev sTakeOut : Stmt := inClass (top 29) 6
abbrev sUndo : Stmt := inClass (top 29) 7
abbrev sRedo : Stmt := inClass (top 29) 8
abbrev sPLen : Stmt := inClass (top 29) 9
abbrev sPool : Stmt := top 31
abbrev sDraw : Stmt := top 32
abbrev sLAl : Stmt := top 33
abbrev sStaged : Stmt := top 34
abbrev sLCut : Stmt := top 35
abbrev sLPairs : Stmt := top 36
abbrev sLText : Stmt := top 37
abbrev sSame : Stmt := top 38
abbrev sShown : Stmt := top 39
abbrev sLaw : Stmt := top 40

/-! ### what the top has written -/
/-- a def of the module -/
def DefAt (K : PySem.W.Frag) (x : Str) (st : Stmt) : Prop := ∃ (f : Addr) (oc : Value) (od : Option Addr) (kV doc pm : Value) (an : Option Addr) (cdv ct : Value) (osl : Array (Option Value)),
  PySem.W.nsIn K mainGlobals x = some (some (.ref f)) ∧ K.lookup f = some ⟨oc, od, .func (PySem.W.fnOf x x (defArgs st) (defBody st) (defScope st) .none kV doc pm an cdv ct), osl⟩ ∧ PySem.W.codeIn K cdv x = true ∧ PySem.W.keepIn K (.ref f) = true
/-- a method of the class at C -/
def MethAt (K : PySem.W.Frag) (C : Addr) (x qual : Str) (st : Stmt) : Prop := ∃ (f : Addr) (oc : Value) (od : Option Addr) (kV doc pm : Value) (an : Option Addr) (cdv ct : Value) (osl : Array (Option Value)),
  PySem.W.findIn K (.ref C) x = some (some (.ref f)) ∧ PySem.W.isFn K (.ref f) = true ∧ K.lookup f = some ⟨oc, od, .func (PySem.W.fnOf x qual (defArgs st) (defBody st) (defScope st) .none kV doc pm an cdv ct), osl⟩ ∧ PySem.W.codeIn K cdv qual = true ∧ PySem.W.keepIn K (.ref f) = true
/-- a class of the module, with a dict, made by its own __init__ -/
def ClsAt (K : PySem.W.Frag) (x : Str) (C : Addr) : Prop :=
  PySem.W.nsIn K mainGlobals x = some (some (.ref C)) ∧ PySem.W.plainGet K C Str.empty = true ∧ PySem.W.hasDictIn K C = true ∧ PySem.W.plainOver K C = true ∧
  PySem.W.findIn K (.ref C) "__setattr__" = some (some (.builtin "object.__setattr__")) ∧ PySem.W.makesIn K C = true ∧ PySem.W.keepIn K (.ref C) = true
theorem DefAt.mk {K : PySem.W.Frag} {x : Str} {st : Stmt} {f : Addr} {oc : Value} {od : Option Addr} {kV doc pm : Value} {an : Option Addr} {cdv ct : Value} {osl : Array (Option Value)}
    (a : PySem.W.nsIn K mainGlobals x = some (some (.ref f))) (l : K.lookup f = some ⟨oc, od, .func (PySem.W.fnOf x x (defArgs st) (defBody st) (defScope st) .none kV doc pm an cdv ct), osl⟩) (c : PySem.W.codeIn K cdv x = true) (k : PySem.W.keepIn K (.ref f) = true) : DefAt K x st :=
  ⟨_, _, _, _, _, _, _, _, _, _, a, l, c, k⟩
theorem MethAt.mk {K : PySem.W.Frag} {C : Addr} {x qual : Str} {st : Stmt} {f : Addr} {oc : Value} {od : Option Addr} {kV doc pm : Value} {an : Option Addr} {cdv ct : Value} {osl : Array (Option Value)}
    (a : PySem.W.findIn K (.ref C) x = some (some (.ref f))) (i : PySem.W.isFn K (.ref f) = true) (l : K.lookup f = some ⟨oc, od, .func (PySem.W.fnOf x qual (defArgs st) (defBody st) (defScope st) .none kV doc pm an cdv ct), osl⟩) (c : PySem.W.codeIn K cdv qual = true) (k : PySem.W.keepIn K (.ref f) = true) : MethAt K C x qual st :=
  ⟨_, _, _, _, _, _, _, _, _, _, a, i, l, c, k⟩
end Rj

set_option Elab.async false
set_option linter.all false
set_option maxRecDepth 100000
namespace Rj
open PySem L2 PyProof.Rows
/-! ### defs and methods with their promises -/
structure Df (P : Program) (w : World) (K : PySem.W.Frag) (mg : Str → Option Value) (base : Heap) (x : Str) (ps : List Str) (k : Nat) (sp : Sp) : Prop where
  ex : ∃ f fd, mg x = some (.ref f) ∧ PySem.W.keepIn K (.ref f) = true ∧ Binds K fd ps [] ∧ FnOk P w K mg base CX0 k f fd ps sp
structure Mt (P : Program) (w : World) (K : PySem.W.Frag) (mg : Str → Option Value) (base : Heap) (C : Addr) (m : Str) (ps : List Str) (k : Nat) (sp : Sp) : Prop where
  ex : ∃ f fd, Meth K C m f ∧ Binds K fd ps [] ∧ FnOk P w K mg base CX0 k f fd ps sp
/-- how the parameters of a def of the text bind -/
def BindsOf (st : Stmt) (x qual : Str) (ps : List Str) : Prop := ∀ (kV doc pm : Value) (an : Option Addr) (cdv ct : Value) (us : List Value), us.length = ps.length → bindArgs (PySem.W.fnOf x qual (defArgs st) (defBody st) (defScope st) .none kV doc pm an cdv ct) ⟨us, []⟩ = pure (ps.zip us)
section
variable {P : Program} {w : World} {K : PySem.W.Frag} {mg : Str → Option Value} {base : Heap}
theorem Df.mk' {h : Heap} {x : Str} {st : Stmt} {ps : List Str} {k : Nat} {sp : Sp} (X : K.In h) (G : h.Ns mainGlobals mg) (D : DefAt K x st) (b : BindsOf st x x ps) (ok : ∀ {f : Addr} {fd : FuncData}, Fun K x x st f fd → FnOk P w K mg base CX0 k f fd ps sp) : Df P w K mg base x ps k sp := by
  obtain ⟨f, oc, od, kV, doc, pm, an, cdv, ct, osl, a, l, c, kp⟩ := D
  have F := fun_mk (st := st) l c kp
  exact ⟨f, _, PySem.W.mg_of X G a, kp, F.binds b, ok F⟩
theorem Mt.mk' {C : Addr} {x qual : Str} {st : Stmt} {ps : List Str} {k : Nat} {sp : Sp} (D : MethAt K C x qual st) (b : BindsOf st x qual ps) (ok : ∀ {f : Addr} {fd : FuncData}, Fun K x qual st f fd → FnOk P w K mg base CX0 k f fd ps sp) : Mt P w K mg base C x ps k sp := by
  obtain ⟨f, oc, od, kV, doc, pm, an, cdv, ct, osl, a, i, l, c, kp⟩ := D
  have F := fun_mk (st := st) l c kp
  exact ⟨f, _, ⟨a, i, kp⟩, F.binds b, ok F⟩
end
section
variable {X : Cx} {x m : Str} {ps : List Str} {k : Nat} {sp : Sp} {e o : Expr} {es : List Expr} {t : TA} {ta te : TE} {p pos apos : Pos} {C : Addr}
theorem pe_df (D : Df X.prog X.w X.K X.mg X.base x ps k sp) (hr : Room k X.A) (ha : PA X (e :: es) t) (hg : Gl X x := by rfl) (hdb : (x == ("__debug__" : Str)) = false := by decide)
    (he : starEach (e :: es) X.env = (false, eval e X.env) :: starEach es X.env := by rfl) (hpl : (backTo pos (starEach es X.env)).any (·.1) = false := by rfl) :
    PE X (.Call (.Name x p) (e :: es) [] pos) (tCall sp [] E0 t) := by
  obtain ⟨f, fd, hm, hk, hb, F⟩ := D.ex
  exact pe_call F hr hg hm hk hb .nil pass0 ha hdb he hpl
theorem pe_mt {pl : Sem Bool} (D : Mt X.prog X.w X.K X.mg X.base C m ps k sp) (c : Cls X.K C) (hr : Room k X.A) (he : PE X o ta) (ha : PA X (e :: es) t)
    (hst : starEach (e :: es) X.env = (false, eval e X.env) :: starEach es X.env := by rfl) (hpl : (backTo pos (starEach es X.env)).any (·.1) = false := by rfl)
    (ht : eval (.Call (.Attribute o m apos) (e :: es) [] pos) X.env = (do
      let ov ← eval o X.env
      standAt apos.atName
      let (f, first) ← holding [ov] (getMethod ov m pl)
      callWith pos f first (backTo pos (starEach (e :: es) X.env)) (backToKw pos (keywordEach [] X.env))) := by rfl) :
    PE X (.Call (.Attribute o m apos) (e :: es) [] pos) (tMeth C m sp [] E0 ta t) := by
  obtain ⟨f, fd, hm, hb, F⟩ := D.ex
  exact pe_meth he c hm F hr hb .nil pass0 ha hst hpl ht
theorem pe_mt0 {pl : Sem Bool} (D : Mt X.prog X.w X.K X.mg X.base C m ps k sp) (c : Cls X.K C) (hr : Room k X.A) (he : PE X o ta)
    (ht : eval (.Call (.Attribute o m apos) [] [] pos) X.env = (do
      let ov ← eval o X.env
      standAt apos.atName
      let (f, first) ← holding [ov] (getMethod ov m pl)
      callWith pos f first (backTo pos (starEach [] X.env)) (backToKw pos (keywordEach [] X.env))) := by rfl) :
    PE X (.Call (.Attribute o m apos) [] [] pos) (tMeth C m sp [] E0 ta tNil) := by
  obtain ⟨f, fd, hm, hb, F⟩ := D.ex
  exact pe_meth0 he c hm F hr hb .nil pass0 ht

end
/-- what isinstance with a built-in class asks -/
theorem isi_of {K : PySem.W.Frag} {H : Hp} {Q : VK} {x : V} {T n : String} {b : Bool} (ty : TyX K H x (.type T)) (h : kitB T n = some b) (q : Q (.bl b) H) : rIsi K [x, .ty n] H Q := ⟨x, .ty n, .type T, .type n, b, rfl, .ty n, ty, kit_ty h, q⟩
/-- what the module has in builtins' names and numbers -/
structure Gb (K : PySem.W.Frag) (mg : Str → Option Value) : Prop where
  isinstance : mg "isinstance" = none
  int : mg "int" = none
  bool : mg "bool" = none
  str : mg "str" = none
  tuple : mg "tuple" = none
  list : mg "list" = none
  len : mg "len" = none
  range : mg "range" = none
  enumerate : mg "enumerate" = none
  reversed : mg "reversed" = none
  sorted : mg "sorted" = none
  max : mg "max" = none
  min : mg "min" = none
  abs : mg "abs" = none
  letters : ∃ t, mg "MOST_LETTERS" = some (.int 30 t)
  piece : ∃ t, mg "LONGEST_PIECE" = some (.int 40 t)

/-! ### heaps -/
/-- all that was tracked is as it was, but at these places -/
def Kp (S : List Addr) (H H' : Hp) : Prop := ∀ b o, b ∉ S → H b = some o → H' b = some o
theorem Kp.same {H H' : Hp} (h : Kp [] H H') : Same H H' := fun b o e => h b o (by simp) e
theorem _root_.L2.Same.kp {H H' : Hp} (h : Same H H') (S : List Addr) : Kp S H H' := fun b o _ e => h b o e
theorem Kp.refl (S : List Addr) (H : Hp) : Kp S H H := fun _ _ _ e => e
theorem Kp.trans {S : List Addr} {H H1 H2 : Hp} (a : Kp S H H1) (b : Kp S H1 H2) : Kp S H H2 := fun c o n e => b c o n (a c o n e)
theorem Kp.mono {S T : List Addr} {H H1 : Hp} (a : Kp S H H1) (h : ∀ x ∈ S, x ∈ T) : Kp T H H1 := fun c o n e => a c o (fun q => n (h c q)) e
theorem _root_.L2.Same.new {H : Hp} {p : Addr} {o : HO} (h : H p = none) : Same H (upd H p o) := fun b u e => by rw [upd_ne (ne_of_none e h)]; exact e
/-- a place that was free at first is written -/
theorem _root_.L2.Same.put {H H1 : Hp} {p : Addr} {o : HO} (s : Same H H1) (h : H p = none) : Same H (upd H1 p o) := fun b u e => by rw [upd_ne (ne_of_none e h)]; exact s b u e
theorem Kp.put {S : List Addr} {H H1 : Hp} {p : Addr} {o : HO} (s : Kp S H H1) (h : p ∈ S ∨ H p = none) : Kp S H (upd H1 p o) := fun b u n e => by
  have : b ≠ p := by
    rcases h with h | h
    · exact fun q => n (q ▸ h)
    · exact ne_of_none e h
  rw [upd_ne this]; exact s b u n e
theorem upd_self {H : Hp} {p : Addr} {o : HO} (h : H p = some o) : upd H p o = H := by
  funext b; unfold upd; split
  · rename_i e; rw [e, h]
  · rfl

/-! ### fields -/
theorem lookup_at : ∀ {fs : List (Str × V)} {i : Nat} {f : Str} {v : V}, (fs.map (·.1)).Nodup → fs[i]? = some (f, v) → fs.lookup f = some v
  | [], _, _, _, _, h => by simp at h
  | (g, x) :: r, 0, f, v, _, h => by
    simp at h; obtain ⟨rfl, rfl⟩ := h; simp [List.lookup]
  | (g, x) :: r, i + 1, f, v, nd, h => by
    have h' : r[i]? = some (f, v) := by simpa using h
    have nd' := List.nodup_cons.mp nd
    have hm : f ∈ r.map (·.1) := List.mem_map.mpr ⟨(f, v), List.mem_of_getElem? h', rfl⟩
    have ne : (f == g) = false := by
      rw [beq_eq_false_iff_ne]; rintro rfl; exact nd'.1 hm
    rw [List.lookup, ne]
    exact lookup_at nd'.2 h'
theorem lookup_none' : ∀ {fs : List (Str × V)} {f : Str}, f ∉ fs.map (·.1) → fs.lookup f = none
  | [], _, _ => rfl
  | (g, x) :: r, f, h => by
    have h1 : f ≠ g := fun e => h (by simp [e])
    have h2 : f ∉ r.map (·.1) := fun e => h (by simp at e ⊢; exact .inr e)
    rw [List.lookup, beq_eq_false_iff_ne.mpr h1]
    exact lookup_none' h2
theorem putF_at : ∀ {fs : List (Str × V)} {i : Nat} {f : Str} {w v : V}, (fs.map (·.1)).Nodup → fs[i]? = some (f, w) → putF f v fs = fs.set i (f, v)
  | [], _, _, _, _, _, h => by simp at h
  | (g, x) :: r, 0, f, w, v, _, h => by
    simp at h; obtain ⟨rfl, rfl⟩ := h; simp [putF]
  | (g, x) :: r, i + 1, f, w, v, nd, h => by
    have h' : r[i]? = some (f, w) := by simpa using h
    have nd' := List.nodup_cons.mp nd
    have hm : f ∈ r.map (·.1) := List.mem_map.mpr ⟨(f, w), List.mem_of_getElem? h', rfl⟩
    have ne : ¬ g = f := by rintro rfl; exact nd'.1 hm
    rw [putF, if_neg ne, putF_at nd'.2 h']; rfl
theorem putF_new : ∀ {fs : List (Str × V)} {f : Str} {v : V}, f ∉ fs.map (·.1) → putF f v fs = fs ++ [(f, v)]
  | [], _, _, _ => rfl
  | (g, x) :: r, f, v, h => by
    have h1 : ¬ g = f := fun e => h (by simp [e])
    have h2 : f ∉ r.map (·.1) := fun e => h (by simp at e ⊢; exact .inr e)
    rw [putF, if_neg h1, putF_new h2]; rfl

/-! ### rows, letters, texts -/
def nV (n : Nat) : V := .int (n : Int)
def ivs (R : List Nat) : List V := R.map nV
theorem ivs_len (R : List Nat) : (ivs R).length = R.length := by simp [ivs]
theorem ivs_get {R : List Nat} {i n : Nat} (h : R[i]? = some n) : (ivs R)[i]? = some (nV n) := by simp [ivs, h]
theorem ivs_snoc (R : List Nat) (n : Nat) : ivs R ++ [nV n] = ivs (R ++ [n]) := by simp [ivs]
/-- the text of codes -/
def tS (l : List Nat) : Str := ⟨l.toArray⟩
theorem tS_len (l : List Nat) : (tS l).length = l.length := by simp [tS, Str.length]
theorem tS_inj {l m : List Nat} (h : tS l = tS m) : l = m := by simpa [tS] using h
theorem tS_app (l m : List Nat) : tS l ++ tS m = tS (l ++ m) := by
  show Str.append (tS l) (tS m) = _
  simp [tS, Str.append]
/-- the codes of letters -/
def cds (al : List Nat) (L : List Nat) : List Nat := L.map fun i => al.getD i 0
def tx (al : List Nat) (L : List Nat) : Str := tS (cds al L)
theorem tx_len (al L : List Nat) : (tx al L).length = L.length := by rw [tx, tS_len]; simp [cds]
theorem tx_app (al L M : List Nat) : tx al L ++ tx al M = tx al (L ++ M) := by rw [tx, tx, tS_app]; simp [tx, cds]
theorem tx_inj {al L M : List Nat} (nd : al.Nodup) (hL : Ls al.length L) (hM : Ls al.length M) (h : tx al L = tx al M) : L = M := by
  have h' : cds al L = cds al M := tS_inj h
  clear h
  induction L generalizing M with
  | nil => cases M with
    | nil => rfl
    | cons b t => simp [cds] at h'
  | cons a s ih =>
    cases M with
    | nil => simp [cds] at h'
    | cons b t =>
      simp only [cds, List.map_cons, List.cons.injEq] at h'
      have ha := hL a (by simp)
      have hb := hM b (by simp)
      have e : a = b := by
        have h1 := h'.1
        rw [List.getD_eq_getElem?_getD, List.getD_eq_getElem?_getD, List.getElem?_eq_getElem ha, List.getElem?_eq_getElem hb] at h1
        exact (List.getElem_inj nd).mp (by simpa using h1)
      rw [e, ih (fun x hx => hL x (by simp [hx])) (fun x hx => hM x (by simp [hx])) h'.2]

/-! ### is_between -/
def spBetween : Sp := fun vs H Q _ => ∃ v l m : Int, vs = [.int v, .int l, .int m] ∧ Q (.bl (decide (l ≤ v ∧ v ≤ m))) H
theorem scBetween : FnScope ["value", "least", "most"] ["value", "least", "most"] (defScope sBetween) := ⟨rfl, rfl, rfl, by decide +kernel, rfl, by decide +kernel, by decide +kernel⟩
section
variable {P : Program} {w : World} {K : PySem.W.Frag} {mg : Str → Option Value} {base : Heap}
theorem ok_between {f : Addr} {fd : FuncData} (F : Fun K "is_between" "is_between" sBetween f fd) (T : Gb K mg) : FnOk P w K mg base CX0 1 f fd ["value", "least", "most"] spBetween := by
  refine F.ok scBetween (fun vs H Q E h => ?_) (fun cdv A outer s H vs Q E hr h => ?_)
  · obtain ⟨v, l, m, rfl, _⟩ := h
    rfl
  · obtain ⟨v, l, m, rfl, k⟩ := h
    refine ⟨_, pss_one (ps_ret (pe_and (pe_callB call_isi (by rfl) T.isinstance (by decide +kernel) (pa_cons (pv 0) (pa_cons (pe_bltn (v := .ty "int") (u := .type "int") (by rfl) T.int (by decide +kernel) rfl) pa_nil)))
      (pe_and (pe_not (pe_callB call_isi (by rfl) T.isinstance (by decide +kernel) (pa_cons (pv 0) (pa_cons (pe_bltn (v := .ty "bool") (u := .type "bool") (by rfl) T.bool (by decide +kernel) rfl) pa_nil))))
        (pe_one (pe_chain op_le op_le (pv 1) (pv 0) (pv 2)))))), ?_⟩
    refine ⟨_, rfl, _, _, _, _, _, rfl, .ty _, .base (.int _), kit_ty (r := true) (by decide +kernel), _, rfl, ?_⟩
    refine iteT ⟨_, rfl, _, _, _, _, _, rfl, .ty _, .base (.int _), kit_ty (r := false) (by decide +kernel), _, rfl, _, rfl, ?_⟩
    refine iteT ⟨_, rfl, _, rfl, _, _, rfl, rfl, _, rfl, ?_⟩
    by_cases h1 : l ≤ v
    · rw [decide_eq_true h1]
      refine iteT ⟨_, rfl, _, _, rfl, rfl, ?_⟩
      have : decide (v ≤ m) = decide (l ≤ v ∧ v ≤ m) := by simp [h1]
      show Q (.bl (decide (v ≤ m))) H
      rw [this]; exact k
    · rw [decide_eq_false h1]
      refine iteF ?_
      have : false = decide (l ≤ v ∧ v ≤ m) := by simp [h1]
      show Q (.bl false) H
      rw [this]; exact k
end
end Rj

set_option Elab.async false
set_option linter.all false
set_option maxRecDepth 100000
namespace Rj
open PySem L2 PyProof.Rows
theorem itT {b : Bool} {A B : Prop} (h : b = true) (x : A) : if b = true then A else B := by rw [if_pos h]; exact x
theorem itF {b : Bool} {A B : Prop} (h : b = false) (x : B) : if b = true then A else B := by rw [h, if_neg Bool.false_ne_true]; exact x
theorem itB {b : Bool} {A B : Prop} (h1 : b = true → A) (h2 : b = false → B) : if b = true then A else B := by
  cases b with
  | true => exact iteT (h1 rfl)
  | false => exact iteF (h2 rfl)
theorem at_ofN {α : Type} {xs : List α} {z : Int} {j : Nat} {v : α} (e : z = (j : Int)) (h : xs[j]? = some v) : atI xs z = some v := by rw [e]; exact atI_nat h
theorem line_big {n : Nat} (h : n ≤ 100000) : n ≤ sizeLine := Nat.le_trans h (by decide)
theorem line_big' {n : Nat} (h : n ≤ 100000) : n < sizeLine := Nat.lt_of_le_of_lt h (by decide)
theorem shaped_two (a c : Int) : SeqAt.shaped (.tuple [.int a, .int c]) = true := by
  simp [SeqAt.shaped, PyData.canLay0, PyData.canLayAll0, PyData.depth, PyData.depthAll]
theorem eqv_two (a c x y : Int) : PyData.eqv (.tuple [.int a, .int c]) (.tuple [.int x, .int y]) = (decide (a = x) && decide (c = y)) := by
  simp [PyData.eqv, PyData.eqvAll]; rfl
/-! ### is_alphabet, checked_alphabet -/
/-- the codes of an alphabet -/
structure Al (al : List Nat) : Prop where
  one : 1 ≤ al.length
  many : al.length ≤ 30
  sign : ∀ c ∈ al, 32 ≤ c ∧ c ≤ 126
  up : al.Pairwise (· < ·)
theorem Al.nodup {al : List Nat} (h : Al al) : al.Nodup := h.up.imp fun h => Nat.ne_of_lt h
def spIsAl : Sp := fun vs H Q _ => ∃ al, vs = [.str (tS al)] ∧ Al al ∧ Q (.bl true) H
theorem scIsAl : FnScope ["alphabet", "sign", "at"] ["alphabet"] (defScope sIsAl) := ⟨rfl, rfl, rfl, by decide +kernel, rfl, by decide +kernel, by decide +kernel⟩
section
variable {P : Program} {w : World} {K : PySem.W.Frag} {mg : Str → Option Value} {base : Heap}
theorem ok_isAl {f : Addr} {fd : FuncData} (F : Fun K "is_alphabet" "is_alphabet" sIsAl f fd) (T : Gb K mg) : FnOk P w K mg base CX0 1 f fd ["alphabet"] spIsAl := by
  refine F.ok scIsAl (fun vs H Q E h => ?_) (fun cdv A outer s H vs Q E hr h => ?_)
  · obtain ⟨v, rfl, _⟩ := h
    rfl
  · obtain ⟨al, rfl, hA, k⟩ := h
    obtain ⟨tk30, hMOST_LETTERS⟩ := T.letters
    have hl : (tS al).length = al.length := tS_len al
    have h1 := hA.one
    have h2 := hA.many
    refine ⟨_, (pss_cons (ps_if (pt_not (pt_chain op_le op_le pe_int (pe_callB call_len_str (by rfl) T.len PySem.boot_len (pa_cons (pv 0) pa_nil)) (pe_glob (v := .int 30) rfl hMOST_LETTERS ⟨_, rfl⟩)))
        (pss_one (ps_ret pe_bl))
        pss_nil)
      (pss_cons (ps_for PassesOwn.never rfl (pi_str (pv 0)) (pg_name (i := 1) scIsAl.nd rfl (Or.inl rfl))
        (pss_one (ps_if (pt_not (pt_chain op_le_str op_le_str pe_str (pv 1) pe_str))
            (pss_one (ps_ret pe_bl))
            pss_nil)))
      (pss_cons (ps_for PassesOwn.never rfl (pi_range2 (by rfl) T.range (pa_cons pe_int (pa_cons (pe_callB call_len_str (by rfl) T.len PySem.boot_len (pa_cons (pv 0) pa_nil)) pa_nil))) (pg_name (i := 2) scIsAl.nd rfl (Or.inl rfl))
        (pss_one (ps_if (pt_cmpR op_ge_str (pe_ix ix_str (pv 0) (pe_op op_sub (pv 2) pe_int) (fun _ _ => rfl)) (pe_ix ix_str (pv 0) (pv 2) (fun _ _ => rfl)) (nomark _))
            (pss_one (ps_ret pe_bl))
            pss_nil)))
      (pss_one (ps_ret pe_bl))))), ?_⟩
    refine ⟨_, rfl, _, rfl, line_big (by rw [hl]; omega), _, _, rfl, rfl, _, rfl, ?_⟩
    rw [hl]
    refine itT (decide_eq_true (by omega)) ⟨_, _, rfl, rfl, _, rfl, ?_⟩
    refine itF (by show (!decide _) = false; rw [decide_eq_true (by omega)]; rfl) ?_
    refine ⟨_, rfl, _, rfl, for_it walk_str (fun i σ H' => H' = H ∧ ∃ v, σ = [some (.str (tS al)), v, none]) ⟨rfl, _, rfl⟩ (fun _ _ _ _ _ => trivial) ?_ ?_⟩
    · rintro i x σ H1 H' hi ⟨rfl, v, rfl⟩ ⟨rfl, c, hc, rfl⟩
      have hc' : al[i]? = some c := by simpa [tS] using hc
      obtain ⟨s1, s2⟩ := hA.sign c (List.mem_of_getElem? hc')
      refine ⟨_, rfl, _, _, rfl, rfl, _, rfl, ?_⟩
      refine itT ?_ ⟨_, _, rfl, rfl, _, rfl, ?_⟩
      · show (!decide ([c] < ([32] : List Nat))) = true
        rw [decide_eq_false]; · rfl
        intro q; cases q with
        | rel q => exact absurd q (by omega)
        | cons q => cases q
      refine itF ?_ ⟨rfl, _, rfl⟩
      show (!(!decide (([126] : List Nat) < [c]))) = false
      rw [decide_eq_false]; · rfl
      intro q; cases q with
      | rel q => exact absurd q (by omega)
      | cons q => cases q
    · rintro σ H' ⟨rfl, v, rfl⟩
      refine ⟨_, rfl, _, rfl, line_big (by rw [hl]; omega), _, _, rfl, ⟨by decide, by decide, by omega, by rw [hl]; omega⟩, for_range (lo := 1) (n := (((tS al).length : Int) - 1).toNat) (fun i σ H2 => H2 = H' ∧ ∃ v1 v2, σ = [some (.str (tS al)), v1, v2]) ⟨rfl, _, _, rfl⟩ ?_ ?_⟩
      · rintro i σ H2 hi0 ⟨rfl, v1, v2, rfl⟩
        have hi : i < al.length - 1 := by rw [hl] at hi0; omega
        have g0 : (tS al).cps.toList[i]? = some al[i] := by simp [tS, show i < al.length by omega]
        have g1 : (tS al).cps.toList[i + 1]? = some al[i + 1] := by simp [tS, show i + 1 < al.length by omega]
        refine ⟨_, rfl, _, rfl, _, _, rfl, rfl, _, _, _, rfl, rfl, line_big (by rw [hl]; omega), at_ofN (j := i) (show (1 : Int) + (i : Nat) - 1 = (i : Nat) by omega) g0, ?_⟩
        refine ⟨_, rfl, _, rfl, _, _, _, rfl, rfl, line_big (by rw [hl]; omega), at_ofN (j := i + 1) (show (1 : Int) + (i : Nat) = ((i + 1 : Nat) : Int) by omega) g1, ?_⟩
        refine ⟨_, _, rfl, rfl, _, rfl, ?_⟩
        refine itF ?_ ⟨rfl, _, _, rfl⟩
        show (!decide ([al[i]] < [al[i + 1]])) = false
        have := List.pairwise_iff_getElem.mp hA.up i (i + 1) (by omega) (by omega) (by omega)
        rw [show decide ([al[i]] < [al[i + 1]]) = true from decide_eq_true (List.Lex.rel this)]; rfl
      · rintro σ H2 ⟨rfl, v1, v2, rfl⟩
        exact k
end
def spChkAl : Sp := fun vs H Q _ => ∃ al, vs = [.str (tS al)] ∧ Al al ∧ Q (.str (tS al)) H
theorem scChkAl : FnScope ["alphabet"] ["alphabet"] (defScope sChkAl) := ⟨rfl, rfl, rfl, by decide +kernel, rfl, by decide +kernel, by decide +kernel⟩
section
variable {P : Program} {w : World} {K : PySem.W.Frag} {mg : Str → Option Value} {base : Heap}
theorem ok_chkAl {f : Addr} {fd : FuncData} (F : Fun K "checked_alphabet" "checked_alphabet" sChkAl f fd) (Dis_alphabet : Df P w K mg base "is_alphabet" ["alphabet"] 1 spIsAl) : FnOk P w K mg base CX0 2 f fd ["alphabet"] spChkAl := by
  refine F.ok scChkAl (fun vs H Q E h => ?_) (fun cdv A outer s H vs Q E hr h => ?_)
  · obtain ⟨v, rfl, _⟩ := h
    rfl
  · obtain ⟨al, rfl, hA, k⟩ := h
    refine ⟨_, (pss_cons (ps_if (pt_not (pt_val (pe_df Dis_alphabet (hr.mono (by decide)) (pa_cons (pv 0) pa_nil))))
        (pss_one ps_never)
        pss_nil)
      (pss_one (ps_ret (pv 0)))), ?_⟩
    refine ⟨_, rfl, al, rfl, hA, _, rfl, ?_⟩
    exact itF rfl ⟨_, rfl, k⟩
end
/-! ### put_together -/
def spPut : Sp := fun vs H Q _ => ∃ (a q : Addr) (R : List Nat) (x y z : Nat), vs = [.ref a, .ref q, nV z] ∧ H a = some (.tup (ivs R)) ∧ H q = some (.tup [nV x, nV y]) ∧ R.length ≤ 1000 ∧
  ∀ H' p, Same H H' → H' p = some (.tup (ivs (jn x y z R))) → Q (.ref p) H'
theorem scPut : FnScope ["row", "pair", "piece", "found", "at"] ["row", "pair", "piece"] (defScope sPut) := ⟨rfl, rfl, rfl, by decide +kernel, rfl, by decide +kernel, by decide +kernel⟩
section
variable {P : Program} {w : World} {K : PySem.W.Frag} {mg : Str → Option Value} {base : Heap}
theorem jn_drop1 {x y z i : Nat} {R : List Nat} {a : Nat} (ha : R[i]? = some a) (h : i + 1 = R.length ∨ ∃ c, R[i + 1]? = some c ∧ ¬ (a = x ∧ c = y)) : jn x y z (R.drop i) = a :: jn x y z (R.drop (i + 1)) := by
  have hi : i < R.length := (List.getElem?_eq_some_iff.mp ha).1
  have e : R.drop i = a :: R.drop (i + 1) := by
    rw [List.drop_eq_getElem_cons hi]; congr 1
    exact (List.getElem?_eq_some_iff.mp ha).2
  rw [e]
  rcases h with h | ⟨c, hc, hn⟩
  · rw [List.drop_eq_nil_of_le (by omega)]; rfl
  · have hi' : i + 1 < R.length := (List.getElem?_eq_some_iff.mp hc).1
    have e2 : R.drop (i + 1) = c :: R.drop (i + 1 + 1) := by
      rw [List.drop_eq_getElem_cons hi']; congr 1
      exact (List.getElem?_eq_some_iff.mp hc).2
    rw [e2, jn, if_neg hn]
theorem jn_drop2 {x y z i : Nat} {R : List Nat} (ha : R[i]? = some x) (hc : R[i + 1]? = some y) : jn x y z (R.drop i) = z :: jn x y z (R.drop (i + 2)) := by
  have hi : i < R.length := (List.getElem?_eq_some_iff.mp ha).1
  have hi' : i + 1 < R.length := (List.getElem?_eq_some_iff.mp hc).1
  have e : R.drop i = x :: y :: R.drop (i + 2) := by
    rw [List.drop_eq_getElem_cons hi, List.drop_eq_getElem_cons hi', (List.getElem?_eq_some_iff.mp ha).2, (List.getElem?_eq_some_iff.mp hc).2]
  rw [e, jn, if_pos ⟨rfl, rfl⟩]
theorem ok_put {f : Addr} {fd : FuncData} (F : Fun K "put_together" "put_together" sPut f fd) (T : Gb K mg) : FnOk P w K mg base CX0 1 f fd ["row", "pair", "piece"] spPut := by
  refine F.ok scPut (fun vs H Q E h => ?_) (fun cdv A outer s H vs Q E hr h => ?_)
  · obtain ⟨_, _, _, _, _, _, rfl, _⟩ := h
    rfl
  · obtain ⟨a, q, R, x, y, z, rfl, ha, hq, hlen, k⟩ := h
    refine ⟨_, (pss_cons (ps_set (i := 3) scPut.nd rfl (Or.inl rfl) (pe_lst pa_nil))
      (pss_cons (ps_set (i := 4) scPut.nd rfl (Or.inl rfl) pe_int)
      (pss_cons (ps_while PassesOwn.never (pt_cmpR op_lt (pv 4) (pe_callB call_len_seq (by rfl) T.len PySem.boot_len (pa_cons (pv 0) pa_nil)) (nomark _))
        (pss_one (ps_if (PW.pt (pw_and (pt_cmpR op_lt (pe_op op_add (pv 4) pe_int) (pe_callB call_len_seq (by rfl) T.len PySem.boot_len (pa_cons (pv 0) pa_nil)) (nomark _)) (pw_and1 (pt_cmpR (op_eqD hr.units) (pe_tup (pa_cons (pe_ix ix_tup (pv 0) (pv 4) (fun _ _ => rfl)) (pa_cons (pe_ix ix_tup (pv 0) (pe_op op_add (pv 4) pe_int) (fun _ _ => rfl)) pa_nil))) (pv 1) (nomark _)))))
            (pss_cons (ps_expr (pe_bm PySem.F.plainAttrs_list PySem.F.slot_list_append PySem.F.type_list_append mt_append (pv 3) (pa_cons (pv 2) pa_nil)))
              (pss_one (ps_aug (i := 4) scPut.nd rfl (Or.inl rfl) pe_int ip_add)))
            (pss_cons (ps_expr (pe_bm PySem.F.plainAttrs_list PySem.F.slot_list_append PySem.F.type_list_append mt_append (pv 3) (pa_cons (pe_ix ix_tup (pv 0) (pv 4) (fun _ _ => rfl)) pa_nil)))
              (pss_one (ps_aug (i := 4) scPut.nd rfl (Or.inl rfl) pe_int ip_add))))))
      (pss_one (ps_ret (pe_callTy call_tuple_of (by rfl) T.tuple (by decide +kernel) (pa_cons (pv 3) pa_nil))))))), ?_⟩
    refine ⟨Nat.zero_le _, fun l hl => ?_⟩
    refine ⟨fun m σ H' => ∃ (i : Nat) (F : List Nat), σ = [some (.ref a), some (.ref q), some (nV z), some (.ref l), some (.int (i : Nat))] ∧ m = R.length - i ∧ i ≤ R.length ∧ Same H H' ∧ H' l = some (.lst (ivs F)) ∧ F.length ≤ i ∧ F ++ jn x y z (R.drop i) = jn x y z R,
      ⟨_, 0, [], rfl, rfl, Nat.zero_le _, Same.new hl, upd_same, Nat.le_refl _, rfl⟩, ?_⟩
    rintro m σ H' ⟨i, F, rfl, rfl, hi, s0, hL, hF, hmg⟩
    have ha' := s0 _ _ ha
    have hq' := s0 _ _ hq
    refine ⟨_, rfl, _, rfl, _, _, rfl, .inr (SqT.of ha'), _, _, rfl, rfl, _, rfl, ?_⟩
    rw [ivs_len]
    refine itB (fun c => ?_) (fun c => ?_)
    · have hi1 : i < R.length := by have := of_decide_eq_true c; omega
      have gi : R[i]? = some R[i] := List.getElem?_eq_getElem hi1
      refine ⟨_, fun _ _ z => z, ?_⟩
      refine ⟨_, rfl, _, _, rfl, rfl, _, rfl, _, _, rfl, .inr (SqT.of ha'), _, _, rfl, rfl, _, rfl, ?_⟩
      rw [ivs_len]
      have fin : ∀ (H2 : Hp), Same H H2 → H2 l = some (.lst (ivs F)) → (i + 1 = R.length ∨ ∃ c, R[i + 1]? = some c ∧ ¬ (R[i] = x ∧ c = y)) →
          ∃ m', m' < R.length - i ∧ ∃ (j : Nat) (F' : List Nat), [some (V.ref a), some (.ref q), some (nV z), some (.ref l), some (.int ((i : Int) + 1))] = [some (V.ref a), some (.ref q), some (nV z), some (.ref l), some (.int (j : Nat))] ∧ m' = R.length - j ∧ j ≤ R.length ∧
            Same H (upd H2 l (.lst (ivs F ++ [nV R[i]]))) ∧ (upd H2 l (.lst (ivs F ++ [nV R[i]]))) l = some (.lst (ivs F')) ∧ F'.length ≤ j ∧ F' ++ jn x y z (R.drop j) = jn x y z R := fun H2 s2 l2 hn =>
        ⟨R.length - (i + 1), by omega, i + 1, F ++ [R[i]], rfl, rfl, by omega, s2.put hl, by rw [upd_same, ivs_snoc], by simp; omega, by rw [← hmg, jn_drop1 gi hn]; simp⟩
      refine itB (fun c2 => ?_) (fun c2 => ?_)
      · have hi2 : i + 1 < R.length := by have := of_decide_eq_true c2; omega
        have gi2 : R[i + 1]? = some R[i + 1] := List.getElem?_eq_getElem hi2
        refine ⟨_, rfl, _, rfl, a, _, _, _, rfl, rfl, SqT.of ha', at_of rfl (ivs_get gi), _, rfl, _, rfl, _, _, rfl, rfl, a, _, _, _, rfl, rfl, SqT.of ha', at_of (j := i + 1) rfl (ivs_get gi2), by show 2 ≤ sizeLine; decide, fun t ht => ?_⟩
        have ntl : l ≠ t := ne_of_none hL ht
        have ntq : q ≠ t := ne_of_none hq' ht
        refine ⟨_, rfl, _, _, .tup (SqT.of upd_same) (.cons (.int _) (.cons (.int _) .nil)), .tup (SqT.of (by rw [upd_ne ntq]; exact hq')) (.cons (.int _) (.cons (.int _) .nil)), shaped_two _ _, shaped_two _ _, _, rfl, ?_⟩
        rw [eqv_two]
        have s2 : Same H (upd H' t (.tup [nV R[i], nV R[i + 1]])) := s0.trans (Same.new ht)
        have l2 : (upd H' t (.tup [nV R[i], nV R[i + 1]])) l = some (.lst (ivs F)) := by rw [upd_ne ntl]; exact hL
        have a2 := s2 _ _ ha
        generalize upd H' t (.tup [nV R[i], nV R[i + 1]]) = H2 at s2 l2 a2 ⊢
        refine itB (fun c3 => ?_) (fun c3 => ?_)
        · rw [Bool.and_eq_true, decide_eq_true_eq, decide_eq_true_eq] at c3
          have e1 : R[i] = x := by omega
          have e2 : R[i + 1] = y := by omega
          refine ⟨_, rfl, .inl ⟨rfl, _, SqL.of l2⟩, _, rfl, l, _, _, rfl, rfl, l2, by rw [ivs_len]; exact line_big' (by omega), ?_⟩
          refine ⟨_, rfl, _, _, rfl, rfl, ?_⟩
          refine ⟨R.length - (i + 2), by omega, i + 2, F ++ [z], rfl, rfl, by omega, s2.put hl, by rw [upd_same, ivs_snoc], by simp; omega, ?_⟩
          rw [← hmg, jn_drop2 (i := i) (by rw [← e1]; exact gi) (by rw [← e2]; exact gi2)]; simp
        · refine ⟨_, rfl, .inl ⟨rfl, _, SqL.of l2⟩, _, rfl, _, rfl, a, _, _, _, rfl, rfl, SqT.of a2, at_of rfl (ivs_get gi), l, _, _, rfl, rfl, l2, by rw [ivs_len]; exact line_big' (by omega), ?_⟩
          refine ⟨_, rfl, _, _, rfl, rfl, fin H2 s2 l2 (.inr ⟨_, gi2, fun q => ?_⟩)⟩
          rw [q.1, q.2] at c3
          simp at c3
      · have hi2 : i + 1 = R.length := by have := of_decide_eq_false c2; omega
        refine iteF ?_
        refine ⟨_, rfl, .inl ⟨rfl, _, SqL.of hL⟩, _, rfl, _, rfl, a, _, _, _, rfl, rfl, SqT.of ha', at_of rfl (ivs_get gi), l, _, _, rfl, rfl, hL, by rw [ivs_len]; exact line_big' (by omega), ?_⟩
        exact ⟨_, rfl, _, _, rfl, rfl, fin H' s0 hL (.inl hi2)⟩
    · have hi1 : i = R.length := by have := of_decide_eq_false c; omega
      refine ⟨_, rfl, _, _, rfl, .inl ⟨SqL.of hL, fun p hp => ?_⟩⟩
      rw [hi1, List.drop_length] at hmg
      have e : F = jn x y z R := by simpa [jn] using hmg
      rw [e]
      exact k _ p (s0.trans (Same.new hp)) upd_same
end
end Rj

set_option Elab.async false
set_option linter.all false
set_option maxRecDepth 100000
namespace Rj
open PySem L2 PyProof.Rows
/-- the key of a pair -/
def pk (p : Nat × Nat) : List Key := [.inl (p.1 : Int), .inl (p.2 : Int)]
theorem pk_inj {p q : Nat × Nat} (h : pk p = pk q) : p = q := by
  obtain ⟨a, b⟩ := p
  obtain ⟨c, d⟩ := q
  simp [pk] at h
  obtain ⟨h1, h2⟩ := h
  have e1 : a = c := by omega
  have e2 : b = d := by omega
  rw [e1, e2]
/-- a pair's tuple -/
def pT (p : Nat × Nat) : HO := .tup [nV p.1, nV p.2]
/-- the dict of ranks of a list of pairs -/
structure RkOk (ps : List (Nat × Nat)) (kvs : List (List Key × V)) : Prop where
  len : kvs.length ≤ ps.length
  val : ∀ r, r < ps.length → valV kvs (pk (prf ps r)) = some (nV r)
  inv : ∀ k v, valV kvs k = some v → ∃ r, r < ps.length ∧ k = pk (prf ps r) ∧ v = nV r
theorem RkOk.one {ps : List (Nat × Nat)} {kvs : List (List Key × V)} (R : RkOk ps kvs) {r s : Nat} (hr : r < ps.length) (hs : s < ps.length) (e : prf ps r = prf ps s) : r = s := by
  have h1 := R.val r hr
  have h2 := R.val s hs
  rw [e, h2] at h1
  have : V.int (s : Int) = V.int (r : Int) := Option.some.inj h1
  injection this with q
  omega
/-- within the first so many places -/
def NbTo (i x y : Nat) (R : List Nat) : Prop := ∃ j : Nat, j < i ∧ R[j]? = some x ∧ R[j + 1]? = some y
theorem nbTo_all {x y : Nat} {R : List Nat} {i : Nat} (h : i = R.length - 1) : NbTo i x y R ↔ Nb x y R := by
  constructor
  · rintro ⟨j, _, a, b⟩; exact ⟨j, a, b⟩
  · rintro ⟨j, a, b⟩
    have := (List.getElem?_eq_some_iff.mp b).1
    exact ⟨j, by omega, a, b⟩
theorem nbTo_succ {x y i : Nat} {R : List Nat} : NbTo (i + 1) x y R ↔ NbTo i x y R ∨ (R[i]? = some x ∧ R[i + 1]? = some y) := by
  constructor
  · rintro ⟨j, hj, a, b⟩
    by_cases e : j = i
    · subst e; exact .inr ⟨a, b⟩
    · exact .inl ⟨j, by omega, a, b⟩
  · rintro (⟨j, hj, a, b⟩ | ⟨a, b⟩)
    · exact ⟨j, by omega, a, b⟩
    · exact ⟨i, by omega, a, b⟩
/-- what is known of the lowest pair -/
def LowRes (ps : List (Nat × Nat)) (R : List Nat) (best : V) (H : Hp) : Prop :=
  (best = .non ∧ ∀ r, r < ps.length → ¬ Nb (prf ps r).1 (prf ps r).2 R) ∨
  ∃ p r, best = .ref p ∧ H p = some (pT (prf ps r)) ∧ r < ps.length ∧ Nb (prf ps r).1 (prf ps r).2 R ∧ ∀ s, s < r → ¬ Nb (prf ps s).1 (prf ps s).2 R
def spLow : Sp := fun vs H Q _ => ∃ (d a : Addr) (kvs : List (List Key × V)) (ps : List (Nat × Nat)) (R : List Nat), vs = [.ref d, .ref a] ∧ H d = some (.dT kvs) ∧ RkOk ps kvs ∧ H a = some (.tup (ivs R)) ∧ R.length ≤ 1000 ∧
  ∀ H' best, Same H H' → LowRes ps R best H' → Q best H'
theorem scLow : FnScope ["ranks", "row", "best", "at", "pair"] ["ranks", "row"] (defScope sLow) := ⟨rfl, rfl, rfl, by decide +kernel, rfl, by decide +kernel, by decide +kernel⟩
/-- what is known behind i places -/
def LowSt (ps : List (Nat × Nat)) (R : List Nat) (i : Nat) (best : V) (H : Hp) : Prop :=
  (best = .non ∧ ∀ r, r < ps.length → ¬ NbTo i (prf ps r).1 (prf ps r).2 R) ∨
  ∃ p r, best = .ref p ∧ H p = some (pT (prf ps r)) ∧ r < ps.length ∧ NbTo i (prf ps r).1 (prf ps r).2 R ∧ ∀ s, s < r → ¬ NbTo i (prf ps s).1 (prf ps s).2 R
section
variable {P : Program} {w : World} {K : PySem.W.Frag} {mg : Str → Option Value} {base : Heap}
theorem ok_low {f : Addr} {fd : FuncData} (F : Fun K "lowest_pair" "lowest_pair" sLow f fd) (T : Gb K mg) : FnOk P w K mg base CX0 1 f fd ["ranks", "row"] spLow := by
  refine F.ok scLow (fun vs H Q E h => ?_) (fun cdv A outer s H vs Q E hr h => ?_)
  · obtain ⟨_, _, _, _, _, rfl, _⟩ := h
    rfl
  · obtain ⟨d, a, kvs, ps, R, rfl, hd, hR, ha, hlen, k⟩ := h
    have hu := hu_of hr
    refine ⟨_, (pss_cons (ps_set (i := 2) scLow.nd rfl (Or.inl rfl) pe_non)
      (pss_cons (ps_for PassesOwn.never rfl (pi_range1 (by rfl) T.range (pa_cons (pe_op op_sub (pe_callB call_len_seq (by rfl) T.len PySem.boot_len (pa_cons (pv 1) pa_nil)) pe_int) pa_nil)) (pg_name (i := 3) scLow.nd rfl (Or.inl rfl))
        (pss_cons (ps_set (i := 4) scLow.nd rfl (Or.inl rfl) (pe_tup (pa_cons (pe_ix ix_tup (pv 1) (pv 3) (fun _ _ => rfl)) (pa_cons (pe_ix ix_tup (pv 1) (pe_op op_add (pv 3) pe_int) (fun _ _ => rfl)) pa_nil))))
          (pss_one (ps_if (PW.pt (pw_and (pt_cmp (pc_din hu (pv 4) (pv 0))) (pw_and1 (PW.pt (pw_or (pt_cmp (pc_isN (pv 2))) (pw_or1 (pt_cmpR op_lt (pe_dget hu (pv 0) (pv 4) (fun _ _ => rfl)) (pe_dget hu (pv 0) (pv 2) (fun _ _ => rfl)) (nomark _))))))))
            (pss_one (ps_set (i := 2) scLow.nd rfl (Or.inl rfl) (pv 4)))
            pss_nil))))
      (pss_one (ps_ret (pv 2))))), ?_⟩
    refine ⟨_, rfl, a, _, rfl, .inr (SqT.of ha), _, _, rfl, rfl, ?_⟩
    refine ⟨_, rfl, by rw [ivs_len]; omega, by rw [ivs_len]; omega, for_range (lo := 0) (n := (((ivs R).length : Int) - 1).toNat) (fun i σ H' => ∃ best v3 v4, σ = [some (.ref d), some (.ref a), some best, v3, v4] ∧ Same H H' ∧ LowSt ps R i best H') ⟨_, _, _, rfl, Same.refl H, .inl ⟨rfl, fun r _ ⟨j, hj, _⟩ => absurd hj (by omega)⟩⟩ ?_ ?_⟩
    · rintro i σ H' hi ⟨best, v3, v4, rfl, s0, L0⟩
      rw [ivs_len] at hi
      have hi1 : i + 1 < R.length := by omega
      have hi0 : i < R.length := by omega
      have g0 : R[i]? = some R[i] := List.getElem?_eq_getElem hi0
      have g1 : R[i + 1]? = some R[i + 1] := List.getElem?_eq_getElem hi1
      have ha' := s0 _ _ ha
      refine ⟨_, rfl, _, rfl, a, _, _, _, rfl, rfl, SqT.of ha', at_of (j := i) (show (0 : Int) + (i : Nat) = (i : Nat) by omega) (ivs_get g0), ?_⟩
      refine ⟨_, rfl, _, rfl, _, _, rfl, rfl, a, _, _, _, rfl, rfl, SqT.of ha', at_of (j := i + 1) (show (0 : Int) + (i : Nat) + 1 = ((i + 1 : Nat) : Int) by omega) (ivs_get g1), ?_⟩
      refine ⟨by show 2 ≤ sizeLine; decide, fun t ht => ?_⟩
      have s1 : Same H' (upd H' t (.tup [nV R[i], nV R[i + 1]])) := Same.new ht
      have t1 : (upd H' t (.tup [nV R[i], nV R[i + 1]])) t = some (pT (R[i], R[i + 1])) := upd_same
      have d1 := s1 _ _ (s0 _ _ hd)
      have L1 : LowSt ps R i best (upd H' t (.tup [nV R[i], nV R[i + 1]])) := by
        rcases L0 with L0 | ⟨p, r, e1, e2, e3⟩
        · exact .inl L0
        · exact .inr ⟨p, r, e1, s1 _ _ e2, e3⟩
      have s2 := s0.trans s1
      generalize upd H' t (.tup [nV R[i], nV R[i + 1]]) = H2 at s1 t1 d1 L1 s2 ⊢
      have nb_new : ∀ r, r < ps.length → ¬ prf ps r = (R[i], R[i + 1]) → (NbTo (i + 1) (prf ps r).1 (prf ps r).2 R ↔ NbTo i (prf ps r).1 (prf ps r).2 R) := fun r hr hne => by
        rw [nbTo_succ]
        refine ⟨fun q => q.resolve_right fun ⟨q1, q2⟩ => hne ?_, .inl⟩
        rw [g0] at q1; rw [g1] at q2
        exact Prod.ext (Option.some.inj q1).symm (Option.some.inj q2).symm
      have g := DGet.t (k := pk (R[i], R[i + 1])) d1 t1
      refine ⟨_, rfl, _, rfl, d, _, rfl, g, _, rfl, ?_⟩
      cases ev : valV kvs (pk (R[i], R[i + 1])) with
      | none =>
        refine iteF (iteF ?_)
        refine ⟨best, _, _, rfl, s2, ?_⟩
        have nn : ∀ r, r < ps.length → ¬ prf ps r = (R[i], R[i + 1]) := fun r hr e => by
          have := hR.val r hr
          rw [e, ev] at this; cases this
        rcases L1 with ⟨e, h⟩ | ⟨p, r, e1, e2, e3, e4, e5⟩
        · exact .inl ⟨e, fun r hr q => h r hr ((nb_new r hr (nn r hr)).mp q)⟩
        · exact .inr ⟨p, r, e1, e2, e3, (nb_new r e3 (nn r e3)).mpr e4, fun s hs q => e5 s hs ((nb_new s (by omega) (nn s (by omega))).mp q)⟩
      | some v =>
        obtain ⟨r0, hr0, ek, rfl⟩ := hR.inv _ _ ev
        have ep : (R[i], R[i + 1]) = prf ps r0 := pk_inj ek
        have here : NbTo (i + 1) (prf ps r0).1 (prf ps r0).2 R := nbTo_succ.mpr (.inr (by rw [← ep]; exact ⟨g0, g1⟩))
        refine iteT ?_
        rcases L1 with ⟨rfl, h⟩ | ⟨p, r, rfl, e2, e3, e4, e5⟩
        · refine ⟨_, rfl, _, rfl, ?_⟩
          refine iteT (iteT ?_)
          refine ⟨_, rfl, _, _, _, rfl, s2, .inr ⟨t, r0, rfl, by rw [← ep]; exact t1, hr0, here, fun s hs q => ?_⟩⟩
          refine h s (by omega) ((nb_new s (by omega) fun e => ?_).mp q)
          have := hR.one (by omega) hr0 (e.trans ep)
          omega
        · refine ⟨_, rfl, _, rfl, ?_⟩
          refine iteF ?_
          have gp := DGet.t (k := pk (prf ps r)) d1 e2
          rw [hR.val r e3] at gp
          rw [ev] at g
          refine ⟨_, rfl, _, rfl, d, _, rfl, g, _, rfl, _, rfl, d, _, rfl, gp, _, _, rfl, rfl, _, rfl, ?_⟩
          refine itB (fun c => ?_) (fun c => ?_)
          · have c' : r0 < r := by have := of_decide_eq_true c; omega
            refine ⟨_, rfl, _, _, _, rfl, s2, .inr ⟨t, r0, rfl, by rw [← ep]; exact t1, hr0, here, fun s hs q => ?_⟩⟩
            refine e5 s (by omega) ((nb_new s (by omega) fun e => ?_).mp q)
            have := hR.one (by omega) hr0 (e.trans ep)
            omega
          · have c' : ¬ r0 < r := by have := of_decide_eq_false c; omega
            refine ⟨_, _, _, rfl, s2, .inr ⟨p, r, rfl, e2, e3, nbTo_succ.mpr (.inl e4), fun s hs q => ?_⟩⟩
            refine e5 s hs ((nb_new s (by omega) fun e => ?_).mp q)
            have := hR.one (by omega) hr0 (e.trans ep)
            omega
    · rintro σ H' ⟨best, v3, v4, rfl, s0, L0⟩
      have en : (((ivs R).length : Int) - 1).toNat = R.length - 1 := by rw [ivs_len]; omega
      rcases L0 with ⟨rfl, h⟩ | ⟨p, r, rfl, e2, e3, e4, e5⟩
      · exact ⟨_, rfl, k H' _ s0 (.inl ⟨rfl, fun r hr q => h r hr ((nbTo_all en).mpr q)⟩)⟩
      · exact ⟨_, rfl, k H' _ s0 (.inr ⟨p, r, rfl, e2, e3, (nbTo_all en).mp e4, fun s hs q => e5 s hs ((nbTo_all en).mpr q)⟩)⟩
end
/-! ### cut_row -/
theorem stR_len {pr : Nat → Nat × Nat} {b : Nat} {L : List Nat} : ∀ t, (stR pr b t L).length ≤ L.length
  | 0 => Nat.le_refl _
  | t + 1 => Nat.le_trans (jn_le _) (stR_len t)
def spCut : Sp := fun vs H Q _ => ∃ (d a : Addr) (kvs : List (List Key × V)) (ps : List (Nat × Nat)) (b : Nat) (L : List Nat), vs = [.ref d, nV b, .ref a] ∧ H d = some (.dT kvs) ∧ RkOk ps kvs ∧ Wf (prf ps) b ps.length ∧ H a = some (.tup (ivs L)) ∧ Ls b L ∧ L.length ≤ 1000 ∧
  ∀ H' p, Same H H' → H' p = some (.tup (ivs (cutP b ps L))) → Q (.ref p) H'
theorem scCut : FnScope ["ranks", "letters", "row", "pair"] ["ranks", "letters", "row"] (defScope sCut) := ⟨rfl, rfl, rfl, by decide +kernel, rfl, by decide +kernel, by decide +kernel⟩
section
variable {P : Program} {w : World} {K : PySem.W.Frag} {mg : Str → Option Value} {base : Heap}
theorem ok_cut {f : Addr} {fd : FuncData} (F : Fun K "cut_row" "cut_row" sCut f fd) (T : Gb K mg) (Dlowest_pair : Df P w K mg base "lowest_pair" ["ranks", "row"] 1 spLow) (Dput_together : Df P w K mg base "put_together" ["row", "pair", "piece"] 1 spPut) :
    FnOk P w K mg base CX0 2 f fd ["ranks", "letters", "row"] spCut := by
  refine F.ok scCut (fun vs H Q E h => ?_) (fun cdv A outer s H vs Q E hr h => ?_)
  · obtain ⟨_, _, _, _, _, _, rfl, _⟩ := h
    rfl
  · obtain ⟨d, a, kvs, ps, b, L, rfl, hd, hR, wf, ha, hL, hlen, k⟩ := h
    have hu := hu_of hr
    have len := fun t => Nat.le_trans (stR_len (pr := prf ps) (b := b) (L := L) t) hlen
    have no := fun (t : Nat) (ht : t ≤ ps.length) => st_no (pr := prf ps) (b := b) hL.lt (t := t) (fun i hi => wf i (by omega))
    refine ⟨_, (pss_cons (ps_set (i := 3) scCut.nd rfl (Or.inl rfl) (pe_df Dlowest_pair (hr.mono (by decide)) (pa_cons (pv 0) (pa_cons (pv 2) pa_nil))))
      (pss_cons (ps_while PassesOwn.never (pt_cmp (pc_notN (pv 3)))
        (pss_cons (ps_set (i := 2) scCut.nd rfl (Or.inl rfl) (pe_df Dput_together (hr.mono (by decide)) (pa_cons (pv 2) (pa_cons (pv 3) (pa_cons (pe_op op_add (pv 1) (pe_dget hu (pv 0) (pv 3) (fun _ _ => rfl))) pa_nil)))))
          (pss_one (ps_set (i := 3) scCut.nd rfl (Or.inl rfl) (pe_df Dlowest_pair (hr.mono (by decide)) (pa_cons (pv 0) (pa_cons (pv 2) pa_nil)))))))
      (pss_one (ps_ret (pv 2))))), ?_⟩
    -- the state of the while
    let W : Nat → L2.St → Hp → Prop := fun m σ H' => ∃ (t : Nat) (pa : Addr) (best : V), σ = [some (.ref d), some (nV b), some (.ref pa), some best] ∧ m = ps.length - t ∧ t ≤ ps.length ∧ Same H H' ∧ H' pa = some (.tup (ivs (stR (prf ps) b t L))) ∧
      ((best = .non ∧ ∀ r, r < ps.length → ¬ Nb (prf ps r).1 (prf ps r).2 (stR (prf ps) b t L)) ∨
        ∃ p r, best = .ref p ∧ H' p = some (pT (prf ps r)) ∧ t ≤ r ∧ r < ps.length ∧ ∀ s, s < r → ¬ Nb (prf ps s).1 (prf ps s).2 (stR (prf ps) b t L))
    refine ⟨_, rfl, _, rfl, d, a, kvs, ps, L, rfl, hd, hR, ha, hlen, fun H' best s0 res => ?_⟩
    refine ⟨W, ⟨ps.length, 0, a, best, rfl, rfl, Nat.zero_le _, s0, s0 _ _ ha, ?_⟩, ?_⟩
    · rcases res with z | ⟨p, r, e1, e2, e3, e4, e5⟩
      · exact .inl z
      · exact .inr ⟨p, r, e1, e2, Nat.zero_le _, e3, e5⟩
    · rintro m σ H1 ⟨t, pa, best, rfl, rfl, ht, s0, hpa, hb⟩
      refine ⟨_, rfl, _, rfl, ?_⟩
      rcases hb with ⟨rfl, h⟩ | ⟨p, r, rfl, hp, htr, hr0, hmin⟩
      · refine iteF ⟨_, rfl, k H1 pa s0 ?_⟩
        have e : stR (prf ps) b (t + (ps.length - t)) L = stR (prf ps) b t L := st_skip fun r h1 h2 => h r (by omega)
        rw [show t + (ps.length - t) = ps.length by omega] at e
        rw [show cutP b ps L = stR (prf ps) b t L from e]
        exact hpa
      · refine iteT ⟨_, fun _ _ z => z, ?_⟩
        have e : stR (prf ps) b (r + 1) L = jn (prf ps r).1 (prf ps r).2 (b + r) (stR (prf ps) b t L) := by
          have e1 : stR (prf ps) b (t + (r - t)) L = stR (prf ps) b t L := st_skip fun s h1 h2 => hmin s (by omega)
          rw [show t + (r - t) = r by omega] at e1
          rw [stR, e1]
        have g := DGet.t (k := pk (prf ps r)) (s0 _ _ hd) hp
        rw [hR.val r hr0] at g
        refine ⟨_, rfl, _, rfl, _, rfl, _, rfl, _, rfl, d, _, rfl, g, _, _, rfl, rfl, ?_⟩
        refine ⟨pa, p, stR (prf ps) b t L, (prf ps r).1, (prf ps r).2, b + r, rfl, hpa, hp, len t, fun H2 p2 s2 hp2 => ?_⟩
        rw [← e] at hp2
        refine ⟨_, rfl, _, rfl, d, p2, kvs, ps, _, rfl, (s0.trans s2) _ _ hd, hR, hp2, len (r + 1), fun H3 best3 s3 res => ?_⟩
        rcases res with ⟨rfl, hno⟩ | ⟨p3, r3, rfl, hp3, h3, hnb, hm⟩
        · exact ⟨_, by omega, r + 1, p2, .non, rfl, rfl, by omega, (s0.trans s2).trans s3, s3 _ _ hp2, .inl ⟨rfl, hno⟩⟩
        · refine ⟨_, by omega, r + 1, p2, .ref p3, rfl, rfl, by omega, (s0.trans s2).trans s3, s3 _ _ hp2, .inr ⟨p3, r3, rfl, hp3, ?_, h3, hm⟩⟩
          by_cases q : r + 1 ≤ r3
          · exact q
          · exact absurd hnb (no (r + 1) (by omega) r3 (by omega))
end
end Rj

set_option Elab.async false
set_option linter.all false
set_option maxRecDepth 100000
namespace Rj
open PySem L2 PyProof.Rows
/-! ### the list of joins as an object -/
/-- the text of a piece; all texts -/
def jtx (al : List Nat) (ps : List (Nat × Nat)) (p : Nat) : Str := tx al (ex al.length ps p)
def txs (al : List Nat) (ps : List (Nat × Nat)) : List Str := (List.range (al.length + ps.length)).map (jtx al ps)
def jf (al : List Nat) (tp lt dr dn : Addr) (lg : Nat) : List (Str × V) :=
  [("alphabet", .str (tS al)), ("pairs", .ref tp), ("texts", .ref lt), ("ranks", .ref dr), ("numbers", .ref dn), ("longest", nV lg)]
theorem jf_nd (al : List Nat) (tp lt dr dn : Addr) (lg : Nat) : ((jf al tp lt dr dn lg).map (·.1)).Nodup := by
  show (["alphabet", "pairs", "texts", "ranks", "numbers", "longest"] : List Str).Nodup
  decide +kernel
theorem txs_len (al : List Nat) (ps : List (Nat × Nat)) : (txs al ps).length = al.length + ps.length := by simp [txs]
theorem txs_get {al : List Nat} {ps : List (Nat × Nat)} {p : Nat} (h : p < al.length + ps.length) : ((txs al ps).map V.str)[p]? = some (.str (jtx al ps p)) := by simp [txs, h]
/-- the dict of numbers -/
structure NumOk (al : List Nat) (ps : List (Nat × Nat)) (kvs : List (Key × V)) : Prop where
  len : kvs.length ≤ al.length + ps.length
  val : ∀ p, p < al.length + ps.length → valV kvs (.inr (jtx al ps p)) = some (nV p)
  inv : ∀ k v, valV kvs k = some v → ∃ p, p < al.length + ps.length ∧ k = .inr (jtx al ps p) ∧ v = nV p
/-- tuples of pairs -/
def PairsAt (H : Hp) (as : List Addr) (ps : List (Nat × Nat)) : Prop := as.length = ps.length ∧ ∀ (r : Nat) p, ps[r]? = some p → ∃ t, as[r]? = some t ∧ H t = some (pT p)
theorem PairsAt.same {H H' : Hp} {as : List Addr} {ps : List (Nat × Nat)} (h : PairsAt H as ps) (s : Same H H') : PairsAt H' as ps := ⟨h.1, fun r p e => let ⟨t, a, b⟩ := h.2 r p e; ⟨t, a, s _ _ b⟩⟩
theorem PairsAt.snoc {H : Hp} {as : List Addr} {ps : List (Nat × Nat)} (h : PairsAt H as ps) {t : Addr} {p : Nat × Nat} (e : H t = some (pT p)) : PairsAt H (as ++ [t]) (ps ++ [p]) := by
  refine ⟨by simp [h.1], fun r q hq => ?_⟩
  by_cases hr : r < ps.length
  · rw [List.getElem?_append_left hr] at hq
    obtain ⟨u, a, b⟩ := h.2 r q hq
    exact ⟨u, by rw [List.getElem?_append_left (by rw [h.1]; exact hr)]; exact a, b⟩
  · have hl := (List.getElem?_eq_some_iff.mp hq).1
    simp at hl
    have : r = ps.length := by omega
    subst this
    simp at hq
    subst hq
    exact ⟨t, by rw [← h.1]; simp, e⟩
structure JF (C : Addr) (H : Hp) (a lt dr dn : Addr) (al : List Nat) (ps : List (Nat × Nat)) : Prop where
  ex : ∃ (dx tp : Addr) (lg : Nat) (as : List Addr) (kr : List (List Key × V)) (kn : List (Key × V)),
    H a = some (.ins C dx (jf al tp lt dr dn lg)) ∧ H tp = some (.tup (as.map V.ref)) ∧ PairsAt H as ps ∧ H lt = some (.lst ((txs al ps).map V.str)) ∧ H dr = some (.dT kr) ∧ RkOk ps kr ∧ H dn = some (.dK kn) ∧ NumOk al ps kn ∧
    (∀ p, p < al.length + ps.length → (Rj.ex al.length ps p).length ≤ lg) ∧ 1 ≤ lg ∧ lg ≤ 40
theorem JF.same {C : Addr} {H H' : Hp} {a lt dr dn : Addr} {al : List Nat} {ps : List (Nat × Nat)} (h : JF C H a lt dr dn al ps) (s : Same H H') : JF C H' a lt dr dn al ps := by
  obtain ⟨dx, tp, lg, as, kr, kn, h1, h2, h3, h4, h5, h6, h7, h8, h9⟩ := h.ex
  exact ⟨dx, tp, lg, as, kr, kn, s _ _ h1, s _ _ h2, h3.same s, s _ _ h4, s _ _ h5, h6, s _ _ h7, h8, h9⟩
/-- a list of joins, whole -/
structure JAt (C : Addr) (H : Hp) (a : Addr) (al : List Nat) (ps : List (Nat × Nat)) : Prop where
  hal : Al al
  jp : JP al.length ps
  few : ps.length ≤ 60
  at_ : ∃ lt dr dn, JF C H a lt dr dn al ps
theorem JAt.same {C : Addr} {H H' : Hp} {a : Addr} {al : List Nat} {ps : List (Nat × Nat)} (h : JAt C H a al ps) (s : Same H H') : JAt C H' a al ps :=
  ⟨h.hal, h.jp, h.few, let ⟨lt, dr, dn, f⟩ := h.at_; ⟨lt, dr, dn, f.same s⟩⟩
theorem JAt.many {C : Addr} {H : Hp} {a : Addr} {al : List Nat} {ps : List (Nat × Nat)} (h : JAt C H a al ps) : al.length + ps.length ≤ 90 := by
  have := h.hal.many
  have := h.few
  omega
/-- what the written part says of the class Joins -/
structure TJ (K : PySem.W.Frag) (C : Addr) : Prop where
  cl : Cls K C
  n1 : NoAttr K C "alphabet"
  n2 : NoAttr K C "pairs"
  n3 : NoAttr K C "texts"
  n4 : NoAttr K C "ranks"
  n5 : NoAttr K C "numbers"
  n6 : NoAttr K C "longest"
theorem jf_no (al : List Nat) (tp lt dr dn : Addr) (lg : Nat) {m : Str} (h : m ∉ (["alphabet", "pairs", "texts", "ranks", "numbers", "longest"] : List Str)) : (jf al tp lt dr dn lg).lookup m = none := lookup_none' h
theorem nbf {m n : Nat} : (nV m = nV n) ↔ m = n := by
  constructor
  · intro h; injection h with q; omega
  · rintro rfl; rfl

def spIsPiece (C : Addr) : Sp := fun vs H Q _ => ∃ (a : Addr) (al : List Nat) (ps : List (Nat × Nat)) (p : Nat), vs = [.ref a, nV p] ∧ JAt C H a al ps ∧ p < al.length + ps.length ∧ Q (.bl true) H
theorem scIsPiece : FnScope ["self", "piece"] ["self", "piece"] (defScope sIsPiece) := ⟨rfl, rfl, rfl, by decide +kernel, rfl, by decide +kernel, by decide +kernel⟩
section
variable {P : Program} {w : World} {K : PySem.W.Frag} {mg : Str → Option Value} {base : Heap}
theorem ok_isPiece {C f : Addr} {fd : FuncData} (F : Fun K "is_piece" "Joins.is_piece" sIsPiece f fd) (T : Gb K mg) (TJ : TJ K C) (Dis_between : Df P w K mg base "is_between" ["value", "least", "most"] 1 spBetween) : FnOk P w K mg base CX0 2 f fd ["self", "piece"] (spIsPiece C) := by
  refine F.ok scIsPiece (fun vs H Q E h => ?_) (fun cdv A outer s H vs Q E hr h => ?_)
  · obtain ⟨_, _, _, _, rfl, _⟩ := h
    rfl
  · obtain ⟨a, al, ps, p, rfl, J, hp, k⟩ := h
    obtain ⟨lt, dr, dn, JF⟩ := J.at_
    obtain ⟨dx, tp, lg, as, kr, kn, h1, h2, h3, h4, h5, h6, h7, h8, h9⟩ := JF.ex
    refine ⟨_, (pss_one (ps_ret (pe_df Dis_between (hr.mono (by decide)) (pa_cons (pv 1) (pa_cons pe_int (pa_cons (pe_op op_sub (pe_callB call_len_seq (by rfl) T.len PySem.boot_len (pa_cons (pe_fld (pv 0) rfl) pa_nil)) pe_int) pa_nil)))))), ?_⟩
    refine ⟨_, rfl, _, rfl, a, C, dx, _, _, rfl, h1, TJ.cl, TJ.n3, lookup_at (i := 2) (jf_nd ..) rfl, lt, _, rfl, .inl (SqL.of h4), _, _, rfl, rfl, ?_⟩
    refine ⟨_, _, _, rfl, ?_⟩
    have : decide ((0 : Int) ≤ (p : Nat) ∧ ((p : Nat) : Int) ≤ ((((txs al ps).map V.str).length : Nat) : Int) - 1) = true := by
      rw [List.length_map, txs_len]
      exact decide_eq_true ⟨by omega, by omega⟩
    show Q (.bl (decide ((0 : Int) ≤ (p : Nat) ∧ ((p : Nat) : Int) ≤ ((((txs al ps).map V.str).length : Nat) : Int) - 1))) H
    rw [this]
    exact k
end
def spChk (C : Addr) : Sp := fun vs H Q _ => ∃ (a : Addr) (al : List Nat) (ps : List (Nat × Nat)) (p : Nat), vs = [.ref a, nV p] ∧ JAt C H a al ps ∧ p < al.length + ps.length ∧ Q .non H
theorem scChk : FnScope ["self", "piece"] ["self", "piece"] (defScope sChk) := ⟨rfl, rfl, rfl, by decide +kernel, rfl, by decide +kernel, by decide +kernel⟩
section
variable {P : Program} {w : World} {K : PySem.W.Frag} {mg : Str → Option Value} {base : Heap}
theorem ok_chk {C f : Addr} {fd : FuncData} (F : Fun K "check_piece" "Joins.check_piece" sChk f fd) (TJ : TJ K C) (Dis_piece : Mt P w K mg base C "is_piece" ["self", "piece"] 2 (spIsPiece C)) : FnOk P w K mg base CX0 3 f fd ["self", "piece"] (spChk C) := by
  refine F.ok scChk (fun vs H Q E h => ?_) (fun cdv A outer s H vs Q E hr h => ?_)
  · obtain ⟨_, _, _, _, rfl, _⟩ := h
    rfl
  · obtain ⟨a, al, ps, p, rfl, J, hp, k⟩ := h
    obtain ⟨lt, dr, dn, JF⟩ := J.at_
    obtain ⟨dx, tp, lg, as, kr, kn, h1, _⟩ := JF.ex
    refine ⟨_, (pss_one (ps_if (pt_not (pt_val (pe_mt Dis_piece TJ.cl (hr.mono (by decide)) (pv 0) (pa_cons (pv 1) pa_nil))))
        (pss_one ps_never)
        pss_nil)), ?_⟩
    refine ⟨_, rfl, a, dx, _, rfl, h1, jf_no _ _ _ _ _ _ (by decide +kernel), _, rfl, a, al, ps, p, rfl, J, hp, _, rfl, ?_⟩
    exact itF rfl k
end
def spTextOf (C : Addr) : Sp := fun vs H Q _ => ∃ (a : Addr) (al : List Nat) (ps : List (Nat × Nat)) (p : Nat), vs = [.ref a, nV p] ∧ JAt C H a al ps ∧ p < al.length + ps.length ∧ Q (.str (jtx al ps p)) H
theorem scTextOf : FnScope ["self", "piece"] ["self", "piece"] (defScope sTextOf) := ⟨rfl, rfl, rfl, by decide +kernel, rfl, by decide +kernel, by decide +kernel⟩
section
variable {P : Program} {w : World} {K : PySem.W.Frag} {mg : Str → Option Value} {base : Heap}
theorem ok_textOf {C f : Addr} {fd : FuncData} (F : Fun K "text_of" "Joins.text_of" sTextOf f fd) (TJ : TJ K C) (Dcheck_piece : Mt P w K mg base C "check_piece" ["self", "piece"] 3 (spChk C)) : FnOk P w K mg base CX0 4 f fd ["self", "piece"] (spTextOf C) := by
  refine F.ok scTextOf (fun vs H Q E h => ?_) (fun cdv A outer s H vs Q E hr h => ?_)
  · obtain ⟨_, _, _, _, rfl, _⟩ := h
    rfl
  · obtain ⟨a, al, ps, p, rfl, J, hp, k⟩ := h
    obtain ⟨lt, dr, dn, JF⟩ := J.at_
    obtain ⟨dx, tp, lg, as, kr, kn, h1, h2, h3, h4, _⟩ := JF.ex
    refine ⟨_, (pss_cons (ps_expr (pe_mt Dcheck_piece TJ.cl (hr.mono (by decide)) (pv 0) (pa_cons (pv 1) pa_nil)))
      (pss_one (ps_ret (pe_ix ix_list (pe_fld (pv 0) rfl) (pv 1) (fun _ _ => rfl))))), ?_⟩
    refine ⟨_, rfl, a, dx, _, rfl, h1, jf_no _ _ _ _ _ _ (by decide +kernel), _, rfl, a, al, ps, p, rfl, J, hp, ?_⟩
    exact ⟨_, rfl, a, C, dx, _, _, rfl, h1, TJ.cl, TJ.n3, lookup_at (i := 2) (jf_nd ..) rfl, _, rfl, lt, _, _, _, rfl, rfl, SqL.of h4, atI_nat (txs_get hp), k⟩
end
/-- what parts_of hands back -/
def PartsV (b : Nat) (ps : List (Nat × Nat)) (p : Nat) (v : V) (H : Hp) : Prop := (p < b ∧ v = .non) ∨ ∃ k t, p = b + k ∧ k < ps.length ∧ v = .ref t ∧ H t = some (pT (prf ps k))
def spPartsOf (C : Addr) : Sp := fun vs H Q _ => ∃ (a : Addr) (al : List Nat) (ps : List (Nat × Nat)) (p : Nat), vs = [.ref a, nV p] ∧ JAt C H a al ps ∧ p < al.length + ps.length ∧
  ∀ v, PartsV al.length ps p v H → Q v H
theorem scPartsOf : FnScope ["self", "piece"] ["self", "piece"] (defScope sPartsOf) := ⟨rfl, rfl, rfl, by decide +kernel, rfl, by decide +kernel, by decide +kernel⟩
section
variable {P : Program} {w : World} {K : PySem.W.Frag} {mg : Str → Option Value} {base : Heap}
theorem ok_partsOf {C f : Addr} {fd : FuncData} (F : Fun K "parts_of" "Joins.parts_of" sPartsOf f fd) (T : Gb K mg) (TJ : TJ K C) (Dcheck_piece : Mt P w K mg base C "check_piece" ["self", "piece"] 3 (spChk C)) : FnOk P w K mg base CX0 4 f fd ["self", "piece"] (spPartsOf C) := by
  refine F.ok scPartsOf (fun vs H Q E h => ?_) (fun cdv A outer s H vs Q E hr h => ?_)
  · obtain ⟨_, _, _, _, rfl, _⟩ := h
    rfl
  · obtain ⟨a, al, ps, p, rfl, J, hp, k1⟩ := h
    obtain ⟨lt, dr, dn, JF⟩ := J.at_
    obtain ⟨dx, tp, lg, as, kr, kn, h1, h2, h3, h4, _⟩ := JF.ex
    have hm := J.hal.many
    have hl : (tS al).length = al.length := tS_len al
    refine ⟨_, (pss_cons (ps_expr (pe_mt Dcheck_piece TJ.cl (hr.mono (by decide)) (pv 0) (pa_cons (pv 1) pa_nil)))
      (pss_cons (ps_if (pt_cmpR op_lt (pv 1) (pe_callB call_len_str (by rfl) T.len PySem.boot_len (pa_cons (pe_fld (pv 0) rfl) pa_nil)) (nomark _))
        (pss_one (ps_ret pe_non))
        pss_nil)
      (pss_one (ps_ret (pe_ix ix_tup (pe_fld (pv 0) rfl) (pe_op op_sub (pv 1) (pe_callB call_len_str (by rfl) T.len PySem.boot_len (pa_cons (pe_fld (pv 0) rfl) pa_nil))) (fun _ _ => rfl)))))), ?_⟩
    refine ⟨_, rfl, a, dx, _, rfl, h1, jf_no _ _ _ _ _ _ (by decide +kernel), _, rfl, a, al, ps, p, rfl, J, hp, ?_⟩
    refine ⟨_, rfl, _, rfl, a, C, dx, _, _, rfl, h1, TJ.cl, TJ.n1, lookup_at (i := 0) (jf_nd ..) rfl, _, rfl, line_big (by rw [hl]; omega), _, _, rfl, rfl, _, rfl, ?_⟩
    rw [hl]
    refine itB (fun c => ?_) (fun c => ?_)
    · exact k1 _ (.inl ⟨by have := of_decide_eq_true c; omega, rfl⟩)
    · have c' : al.length ≤ p := by have := of_decide_eq_false c; omega
      have hk : p - al.length < ps.length := by omega
      obtain ⟨t, ht, hT⟩ := h3.2 (p - al.length) _ (prf_get hk)
      refine ⟨_, rfl, a, C, dx, _, _, rfl, h1, TJ.cl, TJ.n2, lookup_at (i := 1) (jf_nd ..) rfl, _, rfl, _, rfl, a, C, dx, _, _, rfl, h1, TJ.cl, TJ.n1, lookup_at (i := 0) (jf_nd ..) rfl, _, rfl, line_big (by rw [hl]; omega), _, _, rfl, rfl, tp, _, _, .ref t, rfl, rfl, SqT.of h2, at_of (j := p - al.length) (by rw [hl]; omega) (by simp [ht]), ?_⟩
      exact k1 _ (.inr ⟨p - al.length, t, by omega, hk, rfl, hT⟩)
end
def spPieceOf (C : Addr) : Sp := fun vs H Q _ => ∃ (a : Addr) (al : List Nat) (ps : List (Nat × Nat)) (t : Str), vs = [.ref a, .str t] ∧ JAt C H a al ps ∧
  (∀ p, p < al.length + ps.length → t = jtx al ps p → Q (nV p) H) ∧ ((∀ p, p < al.length + ps.length → t ≠ jtx al ps p) → Q .non H)
theorem scPieceOf : FnScope ["self", "text"] ["self", "text"] (defScope sPieceOf) := ⟨rfl, rfl, rfl, by decide +kernel, rfl, by decide +kernel, by decide +kernel⟩
section
variable {P : Program} {w : World} {K : PySem.W.Frag} {mg : Str → Option Value} {base : Heap}
theorem ok_pieceOf {C f : Addr} {fd : FuncData} (F : Fun K "piece_of" "Joins.piece_of" sPieceOf f fd) (TJ : TJ K C) : FnOk P w K mg base CX0 1 f fd ["self", "text"] (spPieceOf C) := by
  refine F.ok scPieceOf (fun vs H Q E h => ?_) (fun cdv A outer s H vs Q E hr h => ?_)
  · obtain ⟨_, _, _, _, rfl, _⟩ := h
    rfl
  · obtain ⟨a, al, ps, t, rfl, J, k1, k2⟩ := h
    obtain ⟨lt, dr, dn, JF⟩ := J.at_
    obtain ⟨dx, tp, lg, as, kr, kn, h1, h2, h3, h4, h5, h6, h7, h8, h9⟩ := JF.ex
    have hu := hu_of hr
    refine ⟨_, (pss_one (ps_ret (pe_dget1 hu (pe_fld (pv 0) rfl) (pv 1) ⟨rfl, rfl, rfl, rfl⟩))), ?_⟩
    refine ⟨_, rfl, a, C, dx, _, _, rfl, h1, TJ.cl, TJ.n5, lookup_at (i := 4) (jf_nd ..) rfl, dn, rfl, .inl ⟨_, .inl h7⟩, _, rfl, _, DGet.k (k := Sum.inr t) h7, ?_⟩
    cases e : valV kn (Sum.inr t) with
    | none =>
      refine k2 fun p hp q => ?_
      have := h8.val p hp
      rw [← q, e] at this; cases this
    | some v =>
      obtain ⟨p, hp, ek, rfl⟩ := h8.inv _ _ e
      exact k1 p hp (Sum.inr.inj ek)
end
end Rj

set_option Elab.async false
set_option linter.all false
set_option maxRecDepth 100000
namespace Rj
open PySem L2 PyProof.Rows
theorem jtx_letter {al : List Nat} {ps : List (Nat × Nat)} {a : Nat} (h : a < al.length) : jtx al ps a = tS [al.getD a 0] := by
  rw [jtx, ex_letter h]; rfl
theorem tx_get {al L : List Nat} {i c : Nat} (h : (tx al L).cps[i]? = some c) : ∃ a, L[i]? = some a ∧ c = al.getD a 0 := by
  have h' : (cds al L)[i]? = some c := by simpa [tx, tS] using h
  rw [cds, List.getElem?_map] at h'
  cases e : L[i]? with
  | none => rw [e] at h'; cases h'
  | some a => rw [e] at h'; exact ⟨a, rfl, (Option.some.inj h').symm⟩
theorem tt_yes {σ : L2.St} {H : Hp} {f g : Hp → Prop} (h : f H) : tYes σ H (fun b H3 => if b = true then f H3 else g H3) := by
  show (if true = true then f H else g H)
  exact iteT h
theorem tx_cps (al L : List Nat) : (tx al L).cps.size = L.length := by rw [← tx_len al L]; rfl
theorem catA_of {K : PySem.W.Frag} {H : Hp} {Q : VK} {a b : Addr} {xs ys : List V} (ha : SqT K H a xs) (hb : SqT K H b ys) (hb' : H b = some (.tup ys)) (hl : xs.length + ys.length ≤ sizeLine) (hy : ys ≠ []) (h : ∀ H' p, Same H H' → H' p = some (.tup (xs ++ ys)) → Q (.ref p) H') : rCatA K (.ref a) (.ref b) H Q :=
  ⟨a, b, xs, ys, rfl, rfl, ha, hb, hl, fun e => h H b (Same.refl H) (by rw [e]; exact hb'), fun _ e => absurd e hy, fun _ _ p hp => h _ p (Same.new hp) upd_same⟩
theorem dc_it {J : It} {n : Nat} {G : Hp → Prop} {Y : Nat → Hp → V → Hp → Prop} (w : Walk J n G Y) {g : TG} {tt : TT} {tk tv : TE} {vs : List Nat} {σ : L2.St} {H1 : Hp} {D : Addr} {Qd : Hp → Prop} (Pv : Nat → Hp → Prop) (h0 : Pv 0 (upd H1 D (.dK []))) (hG : ∀ i H, i ≤ n → Pv i H → G H)
    (hs : ∀ i x H H', i < n → Pv i H → Y i H x H' → g x (wipe σ vs) H' fun σ2 H2 => wipe σ2 vs = wipe σ vs ∧ tt σ2 H2 fun b H3 =>
      if b = true then tk σ2 H3 fun y H4 => tv σ2 H4 fun z H5 => ∃ kvs k, y = kV k ∧ H5 D = some (.dK kvs) ∧ kvs.length < sizeLine ∧ Pv (i + 1) (upd H5 D (.dK (putK kvs k z))) else Pv (i + 1) H3) (hd : ∀ H, Pv n H → Qd H) :
    ∃ W : Nat → Nat → Hp → Prop, (∃ m, W 0 m (upd H1 D (.dK []))) ∧ ∀ i m H, W i m H →
      (J.stop i H ∧ Qd H) ∨ (J.go i H ∧ ∃ Nx : Hp → Prop, (∀ H', Nx H' → ∃ m', m' < m ∧ W (i + 1) m' H') ∧ ∀ x H', J.yld i H x H' → g x (wipe σ vs) H' fun σ2 H2 => wipe σ2 vs = wipe σ vs ∧ tt σ2 H2 fun b H3 =>
        if b = true then tk σ2 H3 fun y H4 => tv σ2 H4 fun z H5 => ∃ kvs k, y = kV k ∧ H5 D = some (.dK kvs) ∧ kvs.length < sizeLine ∧ Nx (upd H5 D (.dK (putK kvs k z))) else Nx H3) := by
  refine ⟨fun i m H => m = n - i ∧ i ≤ n ∧ Pv i H, ⟨n, by simp, Nat.zero_le _, h0⟩, ?_⟩
  rintro i m H ⟨rfl, hi, p⟩
  have q := hG i H hi p
  by_cases hlt : i < n
  · refine .inr ⟨w.goes i H hlt q, Pv (i + 1), fun H' p' => ⟨n - (i + 1), by omega, rfl, hlt, p'⟩, fun x H' y => hs i x H H' hlt p (w.yields i H x H' hlt q y)⟩
  · have e : i = n := by omega
    subst e
    exact .inl ⟨w.stops H q, hd H p⟩

/-! ### is_proper -/
def spProper (C : Addr) : Sp := fun vs H Q _ => ∃ (a q : Addr) (al : List Nat) (ps : List (Nat × Nat)) (x y : Nat), vs = [.ref a, .ref q] ∧ JAt C H a al ps ∧ H q = some (pT (x, y)) ∧ x < al.length + ps.length ∧ y < al.length + ps.length ∧
  (ex al.length ps x ++ ex al.length ps y).length ≤ 40 ∧ cutP al.length ps (ex al.length ps x ++ ex al.length ps y) = [x, y] ∧ ∀ H', Same H H' → Q (.bl true) H'
theorem scProper : FnScope ["self", "pair", "left", "right", "most", "text", "row", "letter"] ["self", "pair"] (defScope sProper) := ⟨rfl, rfl, rfl, by decide +kernel, rfl, by decide +kernel, by decide +kernel⟩
section
variable {P : Program} {w : World} {K : PySem.W.Frag} {mg : Str → Option Value} {base : Heap}
theorem ok_proper {C f : Addr} {fd : FuncData} (F : Fun K "is_proper" "Joins.is_proper" sProper f fd) (T : Gb K mg) (TJ : TJ K C) (Dis_between : Df P w K mg base "is_between" ["value", "least", "most"] 1 spBetween)
    (Dcut_row : Df P w K mg base "cut_row" ["ranks", "letters", "row"] 2 spCut) : FnOk P w K mg base CX0 3 f fd ["self", "pair"] (spProper C) := by
  refine F.ok scProper (fun vs H Q E h => ?_) (fun cdv A outer s H vs Q E hr h => ?_)
  · obtain ⟨_, _, _, _, _, _, rfl, _⟩ := h
    rfl
  · obtain ⟨a, q, al, ps, x, y, rfl, J, hq, hx, hy, hlen, hcut, k⟩ := h
    obtain ⟨lt, dr, dn, JF⟩ := J.at_
    obtain ⟨dx, tp, lg, as, kr, kn, h1, h2, h3, h4, h5, h6, h7, h8, h9⟩ := JF.ex
    have hm := J.hal.many
    have hl : (tS al).length = al.length := tS_len al
    have hu := hu_of hr
    obtain ⟨tk40, hLONGEST_PIECE⟩ := T.piece
    have hLL : Ls al.length (ex al.length ps x ++ ex al.length ps y) := Ls.append (ex_lt J.jp hx) (ex_lt J.jp hy)
    refine ⟨_, (pss_cons (ps_asg (pv 1) (pg_tup rfl (pgs_cons (pg_name (i := 2) scProper.nd rfl (Or.inl rfl)) (pgs_cons (pg_name (i := 3) scProper.nd rfl (Or.inl rfl)) pgs_nil))))
      (pss_cons (ps_set (i := 4) scProper.nd rfl (Or.inl rfl) (pe_op op_sub (pe_callB call_len_seq (by rfl) T.len PySem.boot_len (pa_cons (pe_fld (pv 0) rfl) pa_nil)) pe_int))
      (pss_cons (ps_if (PW.pt (pw_or (pt_not (pt_val (pe_df Dis_between (hr.mono (by decide)) (pa_cons (pv 2) (pa_cons pe_int (pa_cons (pv 4) pa_nil)))))) (pw_or1 (pt_not (pt_val (pe_df Dis_between (hr.mono (by decide)) (pa_cons (pv 3) (pa_cons pe_int (pa_cons (pv 4) pa_nil)))))))))
        (pss_one (ps_ret pe_bl))
        pss_nil)
      (pss_cons (ps_set (i := 5) scProper.nd rfl (Or.inl rfl) (pe_op op_add_str (pe_ix ix_list (pe_fld (pv 0) rfl) (pv 2) (fun _ _ => rfl)) (pe_ix ix_list (pe_fld (pv 0) rfl) (pv 3) (fun _ _ => rfl))))
      (pss_cons (ps_if (pt_cmpR op_gt (pe_callB call_len_str (by rfl) T.len PySem.boot_len (pa_cons (pv 5) pa_nil)) (pe_glob (v := .int 40) rfl hLONGEST_PIECE ⟨_, rfl⟩) (nomark _))
        (pss_one (ps_ret pe_bl))
        pss_nil)
      (pss_cons (ps_set (i := 6) scProper.nd rfl (Or.inl rfl) (pe_callTy call_tuple_of (by rfl) T.tuple (by decide +kernel) (pa_cons (pe_lc (own := [("letter", 7)]) (g := gName 7) (te := tDGet (tFld K (tVar 0) "numbers") (tVar 7)) (by rfl) scProper.nd (pi_str (pv 5)) (blkOk_by (own := [("letter", 7)]) (N := ["self", "pair", "left", "right", "most", "text", "row", "letter"]) (sc := defScope sProper) (by decide +kernel)) (fun _ _ _ _ _ => pg_name (i := 7) scProper.nd rfl (Or.inl rfl)) (fun _ _ _ _ _ => pts_nil) (fun _ _ _ _ _ => by exact (pe_dget hu (pe_fld (pv 0) rfl) (pv 7) (fun _ _ => rfl)))) pa_nil)))
      (pss_one (ps_ret (pe_cmpR (op_eqD hr.units) (pe_df Dcut_row (hr.mono (by decide)) (pa_cons (pe_fld (pv 0) rfl) (pa_cons (pe_callB call_len_str (by rfl) T.len PySem.boot_len (pa_cons (pe_fld (pv 0) rfl) pa_nil)) (pa_cons (pv 6) pa_nil)))) (pv 1) (nomark _)))))))))), ?_⟩
    refine ⟨_, rfl, q, _, rfl, SqT.of hq, rfl, _, _, rfl, _, _, rfl, rfl, ?_⟩
    refine ⟨_, rfl, a, C, dx, _, _, rfl, h1, TJ.cl, TJ.n3, lookup_at (i := 2) (jf_nd ..) rfl, lt, _, rfl, .inl (SqL.of h4), _, _, rfl, rfl, ?_⟩
    rw [List.length_map, txs_len]
    refine ⟨_, rfl, _, rfl, _, _, _, rfl, _, rfl, ?_⟩
    refine itF (by rw [decide_eq_true (show (0 : Int) ≤ (x : Nat) ∧ ((x : Nat) : Int) ≤ ((al.length + ps.length : Nat) : Int) - 1 by omega)]; rfl) ?_
    refine ⟨_, rfl, _, rfl, _, _, _, rfl, _, rfl, ?_⟩
    refine itF (by rw [decide_eq_true (show (0 : Int) ≤ (y : Nat) ∧ ((y : Nat) : Int) ≤ ((al.length + ps.length : Nat) : Int) - 1 by omega)]; rfl) ?_
    have lx := ex_short J.jp hx
    have ly := ex_short J.jp hy
    have tl1 : (jtx al ps x).length = (ex al.length ps x).length := tx_len _ _
    have tl2 : (jtx al ps y).length = (ex al.length ps y).length := tx_len _ _
    refine ⟨_, rfl, a, C, dx, _, _, rfl, h1, TJ.cl, TJ.n3, lookup_at (i := 2) (jf_nd ..) rfl, _, rfl, lt, _, _, _, rfl, rfl, SqL.of h4, atI_nat (txs_get hx),
      _, rfl, a, C, dx, _, _, rfl, h1, TJ.cl, TJ.n3, lookup_at (i := 2) (jf_nd ..) rfl, _, rfl, lt, _, _, _, rfl, rfl, SqL.of h4, atI_nat (txs_get hy), _, _, rfl, rfl, line_big (by rw [tl1, tl2]; omega), ?_⟩
    have et : jtx al ps x ++ jtx al ps y = tx al (ex al.length ps x ++ ex al.length ps y) := tx_app _ _ _
    rw [et]
    generalize hLLe : ex al.length ps x ++ ex al.length ps y = LL at hlen hcut hLL ⊢
    refine ⟨_, rfl, _, rfl, line_big (by rw [tx_len]; omega), _, _, rfl, rfl, _, rfl, ?_⟩
    refine itF (by rw [tx_len]; exact decide_eq_false (by omega)) ?_
    refine ⟨_, rfl, _, rfl, fun D hD => lc_it walk_str (fun i H' => Same H H' ∧ H' D = some (.lst (ivs (LL.take i)))) ⟨Same.new hD, upd_same⟩ (fun _ _ _ _ => trivial) ?_ ?_⟩
    · rintro i c H1 H' hi ⟨s0, hL⟩ ⟨rfl, cc, hc, rfl⟩
      obtain ⟨l, hl', rfl⟩ := tx_get hc
      have hlb : l < al.length := hLL l (List.mem_of_getElem? hl')
      have g := DGet.k (k := Sum.inr (jtx al ps l)) (s0 _ _ h7)
      rw [h8.val l (by omega)] at g
      refine ⟨rfl, tt_yes ?_⟩
      refine ⟨_, rfl, a, C, dx, _, _, rfl, s0 _ _ h1, TJ.cl, TJ.n5, lookup_at (i := 4) (jf_nd ..) rfl, _, rfl, dn, nV l, rfl, ?_⟩
      rw [jtx_letter hlb] at g
      refine ⟨g, _, hL, by rw [ivs_len]; exact line_big' (by rw [List.length_take]; omega), s0.put hD, ?_⟩
      rw [upd_same, ivs_snoc, List.take_add_one, hl']
      rfl
    · rintro H1 ⟨s0, hL⟩
      rw [tx_cps, List.take_length] at hL
      refine ⟨D, _, rfl, .inl ⟨SqL.of hL, fun p hp => ?_⟩⟩
      have s1 := s0.trans (Same.new (o := .tup (ivs LL)) hp)
      have hp1 : (upd H1 p (.tup (ivs LL))) p = some (.tup (ivs LL)) := upd_same
      generalize upd H1 p (.tup (ivs LL)) = H2 at s1 hp1 ⊢
      refine ⟨_, rfl, a, C, dx, _, _, rfl, s1 _ _ h1, TJ.cl, TJ.n4, lookup_at (i := 3) (jf_nd ..) rfl, _, rfl, a, C, dx, _, _, rfl, s1 _ _ h1, TJ.cl, TJ.n1, lookup_at (i := 0) (jf_nd ..) rfl, _, rfl, line_big (by rw [hl]; omega), _, rfl, ?_⟩
      rw [hl]
      refine ⟨dr, p, kr, ps, al.length, LL, rfl, s1 _ _ h5, h6, J.jp.proper.1, hp1, hLL, by omega, fun H3 p3 s3 hp3 => ?_⟩
      rw [hcut] at hp3
      refine ⟨_, rfl, _, _, .tup (SqT.of hp3) (.cons (.int _) (.cons (.int _) .nil)), .tup (SqT.of (s3 _ _ (s1 _ _ hq))) (.cons (.int _) (.cons (.int _) .nil)), shaped_two _ _, shaped_two _ _, ?_⟩
      rw [eqv_two, decide_eq_true rfl, decide_eq_true rfl]
      exact k _ (s1.trans s3)
end
end Rj

set_option Elab.async false
set_option linter.all false
set_option maxRecDepth 100000
namespace Rj
open PySem L2 PyProof.Rows
theorem jf_put2 (al : List Nat) (tp t lt dr dn : Addr) (lg : Nat) : putF "pairs" (.ref t) (jf al tp lt dr dn lg) = jf al t lt dr dn lg := by
  rw [putF_at (i := 1) (w := .ref tp) (jf_nd ..) rfl]; rfl
theorem jf_put6 (al : List Nat) (tp lt dr dn : Addr) (lg n : Nat) : putF "longest" (nV n) (jf al tp lt dr dn lg) = jf al tp lt dr dn n := by
  rw [putF_at (i := 5) (w := nV lg) (jf_nd ..) rfl]; rfl
theorem txs_snoc {al : List Nat} {ps : List (Nat × Nat)} {x y : Nat} (hx : x < al.length + ps.length) (hy : y < al.length + ps.length) :
    txs al (ps ++ [(x, y)]) = txs al ps ++ [tx al (ex al.length ps x ++ ex al.length ps y)] := by
  unfold txs
  rw [show al.length + (ps ++ [(x, y)]).length = al.length + ps.length + 1 by simp; omega, List.range_succ, List.map_append]
  congr 1
  · apply List.map_congr_left
    intro p hp
    rw [jtx, jtx, ex_app (List.mem_range.mp hp)]
  · simp only [List.map_cons, List.map_nil]
    rw [jtx, ex_new hx hy]
theorem jtx_app {al : List Nat} {ps : List (Nat × Nat)} {q : Nat × Nat} {p : Nat} (h : p < al.length + ps.length) : jtx al (ps ++ [q]) p = jtx al ps p := by rw [jtx, jtx, ex_app h]
theorem jtx_new {al : List Nat} {ps : List (Nat × Nat)} {x y : Nat} (hx : x < al.length + ps.length) (hy : y < al.length + ps.length) : jtx al (ps ++ [(x, y)]) (al.length + ps.length) = tx al (ex al.length ps x ++ ex al.length ps y) := by rw [jtx, ex_new hx hy]
theorem RkOk.snoc {ps : List (Nat × Nat)} {kvs : List (List Key × V)} (R : RkOk ps kvs) {p : Nat × Nat} (hn : ∀ r, r < ps.length → prf ps r ≠ p) : RkOk (ps ++ [p]) (putK kvs (pk p) (nV ps.length)) := by
  have hlen : (ps ++ [p]).length = ps.length + 1 := by simp
  refine ⟨by have := length_putK kvs (pk p) (nV ps.length); have := R.len; omega, fun r hr => ?_, fun k v h => ?_⟩
  · rw [hlen] at hr
    rw [valV_put]
    by_cases e : r = ps.length
    · subst e; rw [prf_last, if_pos rfl]
    · rw [prf_app (by omega), if_neg fun q => hn r (by omega) (pk_inj q)]
      exact R.val r (by omega)
  · rw [valV_put] at h
    by_cases e : k = pk p
    · rw [if_pos e] at h
      cases h
      exact ⟨ps.length, by rw [hlen]; omega, by rw [prf_last]; exact e, rfl⟩
    · rw [if_neg e] at h
      obtain ⟨r, hr, e1, e2⟩ := R.inv k v h
      exact ⟨r, by rw [hlen]; omega, by rw [prf_app hr]; exact e1, e2⟩
theorem NumOk.snoc {al : List Nat} {ps : List (Nat × Nat)} {kvs : List (Key × V)} (N : NumOk al ps kvs) {x y : Nat} (hx : x < al.length + ps.length) (hy : y < al.length + ps.length)
    (hn : ∀ p, p < al.length + ps.length → jtx al ps p ≠ tx al (ex al.length ps x ++ ex al.length ps y)) :
    NumOk al (ps ++ [(x, y)]) (putK kvs (.inr (tx al (ex al.length ps x ++ ex al.length ps y))) (nV (al.length + ps.length))) := by
  have hlen : al.length + (ps ++ [(x, y)]).length = al.length + ps.length + 1 := by simp; omega
  refine ⟨by have := length_putK kvs (.inr (tx al (ex al.length ps x ++ ex al.length ps y))) (nV (al.length + ps.length)); have := N.len; omega, fun p hp => ?_, fun k v h => ?_⟩
  · rw [hlen] at hp
    rw [valV_put]
    by_cases e : p = al.length + ps.length
    · subst e; rw [jtx_new hx hy, if_pos rfl]
    · rw [jtx_app (by omega), if_neg fun q => hn p (by omega) (Sum.inr.inj q)]
      exact N.val p (by omega)
  · rw [valV_put] at h
    by_cases e : k = .inr (tx al (ex al.length ps x ++ ex al.length ps y))
    · rw [if_pos e] at h
      cases h
      exact ⟨al.length + ps.length, by rw [hlen]; omega, by rw [jtx_new hx hy]; exact e, rfl⟩
    · rw [if_neg e] at h
      obtain ⟨p, hp, e1, e2⟩ := N.inv k v h
      exact ⟨p, by rw [hlen]; omega, by rw [jtx_app hp]; exact e1, e2⟩
theorem lens_snoc {al : List Nat} {ps : List (Nat × Nat)} {x y lg : Nat} (hx : x < al.length + ps.length) (hy : y < al.length + ps.length) (h : ∀ p, p < al.length + ps.length → (ex al.length ps p).length ≤ lg) :
    ∀ p, p < al.length + (ps ++ [(x, y)]).length → (ex al.length (ps ++ [(x, y)]) p).length ≤ max lg (ex al.length ps x ++ ex al.length ps y).length := fun p hp => by
  have hlen : al.length + (ps ++ [(x, y)]).length = al.length + ps.length + 1 := by simp; omega
  rw [hlen] at hp
  by_cases e : p = al.length + ps.length
  · subst e; rw [ex_new hx hy]; exact Nat.le_max_right _ _
  · rw [ex_app (by omega)]
    exact Nat.le_trans (h p (by omega)) (Nat.le_max_left _ _)

/-! ### take -/
def spTake (C : Addr) : Sp := fun vs H Q _ => ∃ (F : Hp) (a q lt dr dn : Addr) (al : List Nat) (ps : List (Nat × Nat)) (x y : Nat), vs = [.ref a, .ref q] ∧ Same F H ∧ F a = none ∧ F lt = none ∧ F dr = none ∧ F dn = none ∧
  Al al ∧ JP al.length ps ∧ ps.length < 60 ∧ JF C H a lt dr dn al ps ∧ H q = some (pT (x, y)) ∧ x < al.length + ps.length ∧ y < al.length + ps.length ∧
  (ex al.length ps x ++ ex al.length ps y).length ≤ 40 ∧ cutP al.length ps (ex al.length ps x ++ ex al.length ps y) = [x, y] ∧
  ∀ H', Same F H' → JF C H' a lt dr dn al (ps ++ [(x, y)]) → Q .non H'
theorem scTake : FnScope ["self", "pair", "rank", "text"] ["self", "pair"] (defScope sTake) := ⟨rfl, rfl, rfl, by decide +kernel, rfl, by decide +kernel, by decide +kernel⟩
section
variable {P : Program} {w : World} {K : PySem.W.Frag} {mg : Str → Option Value} {base : Heap}
theorem ok_take {C f : Addr} {fd : FuncData} (F : Fun K "take" "Joins.take" sTake f fd) (T : Gb K mg) (TJ : TJ K C) (Dis_proper : Mt P w K mg base C "is_proper" ["self", "pair"] 3 (spProper C)) : FnOk P w K mg base CX0 4 f fd ["self", "pair"] (spTake C) := by
  refine F.ok scTake (fun vs H Q E h => ?_) (fun cdv A outer s H vs Q E hr h => ?_)
  · obtain ⟨_, _, _, _, _, _, _, _, _, _, rfl, _⟩ := h
    rfl
  · obtain ⟨G, a, q, lt, dr, dn, al, ps, x, y, rfl, sG, ga, glt, gdr, gdn, hA, hJ, hfew, JFF, hq, hx, hy, hlen, hcut, k⟩ := h
    obtain ⟨dx, tp, lg, as, kr, kn, h1, h2, h3, h4, h5, h6, h7, h8, h9, h10, h11⟩ := JFF.ex
    have hm := hA.many
    have hu := hu_of hr
    refine ⟨_, (pss_cons (ps_set (i := 2) scTake.nd rfl (Or.inl rfl) (pe_callB call_len_seq (by rfl) T.len PySem.boot_len (pa_cons (pe_fld (pv 0) rfl) pa_nil)))
      (pss_cons (ps_if (pt_not (pt_val (pe_mt Dis_proper TJ.cl (hr.mono (by decide)) (pv 0) (pa_cons (pv 1) pa_nil))))
        (pss_one ps_never)
        pss_nil)
      (pss_cons (ps_set (i := 3) scTake.nd rfl (Or.inl rfl) (pe_op op_add_str (pe_ix ix_list (pe_fld (pv 0) rfl) (pe_ix ix_tup (pv 1) pe_int (fun _ _ => rfl)) (fun _ _ => rfl)) (pe_ix ix_list (pe_fld (pv 0) rfl) (pe_ix ix_tup (pv 1) pe_int (fun _ _ => rfl)) (fun _ _ => rfl))))
      (pss_cons (ps_fld (pv 0) (pe_op op_catA (pe_fld (pv 0) rfl) (pe_tup (pa_cons (pv 1) pa_nil))) rfl)
      (pss_cons (ps_dput hu (pe_fld (pv 0) rfl) (pv 3) (pe_callB call_len_seq (by rfl) T.len PySem.boot_len (pa_cons (pe_fld (pv 0) rfl) pa_nil)) rfl)
      (pss_cons (ps_expr (pe_bm PySem.F.plainAttrs_list PySem.F.slot_list_append PySem.F.type_list_append mt_append (pe_fld (pv 0) rfl) (pa_cons (pv 3) pa_nil)))
      (pss_cons (ps_dput hu (pe_fld (pv 0) rfl) (pv 1) (pv 2) rfl)
      (pss_one (ps_fld (pv 0) (pe_callB (call_max2 rfl) (by rfl) T.max (by decide +kernel) (pa_cons (pe_fld (pv 0) rfl) (pa_cons (pe_callB call_len_str (by rfl) T.len PySem.boot_len (pa_cons (pv 3) pa_nil)) pa_nil))) rfl))))))))), ?_⟩
    refine ⟨_, rfl, a, C, dx, _, _, rfl, h1, TJ.cl, TJ.n2, lookup_at (i := 1) (jf_nd ..) rfl, tp, _, rfl, .inr (SqT.of h2), ?_⟩
    rw [List.length_map, h3.1]
    refine ⟨_, rfl, a, dx, _, rfl, h1, jf_no _ _ _ _ _ _ (by decide +kernel), _, rfl, a, q, al, ps, x, y, rfl, ⟨hA, hJ, by omega, lt, dr, dn, JFF⟩, hq, hx, hy, hlen, hcut, fun H1 s1 => ⟨_, rfl, ?_⟩⟩
    refine itF rfl ?_
    have sG1 := sG.trans s1
    have k1 := s1 _ _ h1
    have k2 := s1 _ _ h2
    have k3 := h3.same s1
    have k4 := s1 _ _ h4
    have k5 := s1 _ _ h5
    have k7 := s1 _ _ h7
    have kq := s1 _ _ hq
    have lx := ex_short hJ hx
    have ly := ex_short hJ hy
    have tl1 : (jtx al ps x).length = (ex al.length ps x).length := tx_len _ _
    have tl2 : (jtx al ps y).length = (ex al.length ps y).length := tx_len _ _
    refine ⟨_, rfl, a, C, dx, _, _, rfl, k1, TJ.cl, TJ.n3, lookup_at (i := 2) (jf_nd ..) rfl, _, rfl, q, _, _, _, rfl, rfl, SqT.of kq, at_of (j := 0) rfl rfl, lt, _, _, _, rfl, rfl, SqL.of k4, atI_nat (txs_get hx),
      _, rfl, a, C, dx, _, _, rfl, k1, TJ.cl, TJ.n3, lookup_at (i := 2) (jf_nd ..) rfl, _, rfl, q, _, _, _, rfl, rfl, SqT.of kq, at_of (j := 1) rfl rfl, lt, _, _, _, rfl, rfl, SqL.of k4, atI_nat (txs_get hy), _, _, rfl, rfl, line_big (by rw [tl1, tl2]; omega), ?_⟩
    have et : jtx al ps x ++ jtx al ps y = tx al (ex al.length ps x ++ ex al.length ps y) := tx_app _ _ _
    rw [et]
    -- self.pairs = self.pairs + (pair,)
    refine ⟨_, rfl, a, C, dx, _, _, rfl, k1, TJ.cl, TJ.n2, lookup_at (i := 1) (jf_nd ..) rfl, _, rfl, by show 1 ≤ sizeLine; decide, fun t ht => ?_⟩
    have s2 : Same H1 (upd H1 t (.tup [.ref q])) := Same.new ht
    refine catA_of (SqT.of (s2 _ _ k2)) (SqT.of upd_same) upd_same (by rw [List.length_map, h3.1]; show ps.length + 1 ≤ sizeLine; exact line_big (by omega)) (by simp) fun H3 p3 s3 hp3 => ?_
    have s13 := s2.trans s3
    have m1 := s13 _ _ k1
    have m4 := s13 _ _ k4
    have m5 := s13 _ _ k5
    have m7 := s13 _ _ k7
    have mq := s13 _ _ kq
    have m3 := k3.same s13
    have sG3 := sG1.trans s13
    have na4 : a ≠ lt := ne_of m1 m4 (by intro z; cases z)
    have na5 : a ≠ dr := ne_of m1 m5 (by intro z; cases z)
    have na7 : a ≠ dn := ne_of m1 m7 (by intro z; cases z)
    have n45 : lt ≠ dr := ne_of m4 m5 (by intro z; cases z)
    have n47 : lt ≠ dn := ne_of m4 m7 (by intro z; cases z)
    have n57 : dr ≠ dn := ne_of m5 m7 (by intro z; cases z)
    have naq : a ≠ q := ne_of m1 mq (by intro z; cases z)
    have n4q : lt ≠ q := ne_of m4 mq (by intro z; cases z)
    have n5q : dr ≠ q := ne_of m5 mq (by intro z; cases z)
    have n7q : dn ≠ q := ne_of m7 mq (by intro z; cases z)
    have nap : a ≠ p3 := ne_of m1 hp3 (by intro z; cases z)
    have n4p : lt ≠ p3 := ne_of m4 hp3 (by intro z; cases z)
    have n5p : dr ≠ p3 := ne_of m5 hp3 (by intro z; cases z)
    have n7p : dn ≠ p3 := ne_of m7 hp3 (by intro z; cases z)
    refine ⟨_, rfl, a, C, dx, _, rfl, m1, TJ.cl, TJ.n2, by show 6 < 1000; decide, ?_⟩
    rw [jf_put2]
    -- self.numbers[text] = len(self.texts)
    generalize hH4 : upd H3 a (.ins C dx (jf al p3 lt dr dn lg)) = H4
    have o1 : H4 a = some (.ins C dx (jf al p3 lt dr dn lg)) := by rw [← hH4]; exact upd_same
    have o4 : H4 lt = some (.lst ((txs al ps).map V.str)) := by rw [← hH4, upd_ne na4.symm]; exact m4
    have o5 : H4 dr = some (.dT kr) := by rw [← hH4, upd_ne na5.symm]; exact m5
    have o7 : H4 dn = some (.dK kn) := by rw [← hH4, upd_ne na7.symm]; exact m7
    have sG4 : Same G H4 := by rw [← hH4]; exact sG3.put ga
    refine ⟨_, rfl, a, C, dx, _, _, rfl, o1, TJ.cl, TJ.n3, lookup_at (i := 2) (jf_nd ..) rfl, lt, _, rfl, .inl (SqL.of o4), ?_⟩
    rw [List.length_map, txs_len]
    refine ⟨_, rfl, a, C, dx, _, _, rfl, o1, TJ.cl, TJ.n5, lookup_at (i := 4) (jf_nd ..) rfl, _, rfl, dn, _, rfl, DPut.k (k := Sum.inr _) o7 (line_big' (by have := h8.len; omega)), ?_⟩
    generalize hH5 : upd H4 dn _ = H5
    have r1 : H5 a = some (.ins C dx (jf al p3 lt dr dn lg)) := by rw [← hH5, upd_ne na7]; exact o1
    have r4 : H5 lt = some (.lst ((txs al ps).map V.str)) := by rw [← hH5, upd_ne n47]; exact o4
    -- self.texts.append(text)
    refine ⟨_, rfl, a, C, dx, _, _, rfl, r1, TJ.cl, TJ.n3, lookup_at (i := 2) (jf_nd ..) rfl, .inl ⟨rfl, _, SqL.of r4⟩, _, rfl, lt, _, _, rfl, rfl, r4, by rw [List.length_map, txs_len]; exact line_big' (by omega), ?_⟩
    generalize hH6 : upd H5 lt _ = H6
    have t1 : H6 a = some (.ins C dx (jf al p3 lt dr dn lg)) := by rw [← hH6, upd_ne na4]; exact r1
    have t5 : H6 dr = some (.dT kr) := by rw [← hH6, upd_ne n45.symm, ← hH5, upd_ne n57]; exact o5
    have tq : H6 q = some (pT (x, y)) := by rw [← hH6, upd_ne n4q.symm, ← hH5, upd_ne n7q.symm, ← hH4, upd_ne naq.symm]; exact mq
    -- self.ranks[pair] = rank
    refine ⟨_, rfl, _, rfl, a, C, dx, _, _, rfl, t1, TJ.cl, TJ.n4, lookup_at (i := 3) (jf_nd ..) rfl, _, rfl, dr, _, rfl, DPut.t (k := pk (x, y)) t5 tq (line_big' (by have := h6.len; omega)), ?_⟩
    generalize hH7 : upd H6 dr _ = H7
    have u1 : H7 a = some (.ins C dx (jf al p3 lt dr dn lg)) := by rw [← hH7, upd_ne na5]; exact t1
    -- self.longest = max(..)
    refine ⟨_, rfl, a, C, dx, _, _, rfl, u1, TJ.cl, TJ.n6, lookup_at (i := 5) (jf_nd ..) rfl, _, rfl, _, rfl, line_big (by rw [tx_len]; omega), _, _, rfl, ?_⟩
    have emax : (if ((tx al (ex al.length ps x ++ ex al.length ps y)).length : Int) > ((lg : Nat) : Int) then (((tx al (ex al.length ps x ++ ex al.length ps y)).length : Nat) : Int) else ((lg : Nat) : Int)) = ((max lg (ex al.length ps x ++ ex al.length ps y).length : Nat) : Int) := by
      rw [tx_len]
      split
      · rw [Nat.max_eq_right (by omega)]
      · rw [Nat.max_eq_left (by omega)]
    refine ⟨_, rfl, a, C, dx, _, rfl, u1, TJ.cl, TJ.n6, by show 6 < 1000; decide, ?_⟩
    have fin : putF "longest" (.int (if ((tx al (ex al.length ps x ++ ex al.length ps y)).length : Int) > ((lg : Nat) : Int) then (((tx al (ex al.length ps x ++ ex al.length ps y)).length : Nat) : Int) else ((lg : Nat) : Int))) (jf al p3 lt dr dn lg) = jf al p3 lt dr dn (max lg (ex al.length ps x ++ ex al.length ps y).length) := by
      rw [emax]; exact jf_put6 ..
    show Q .non (upd H7 a (.ins C dx (putF "longest" _ (jf al p3 lt dr dn lg))))
    rw [fin]
    refine k _ ?_ ⟨dx, p3, _, as ++ [q], putK kr (pk (x, y)) (nV ps.length), putK kn (.inr (tx al (ex al.length ps x ++ ex al.length ps y))) (nV (al.length + ps.length)), upd_same, ?_, ?_, ?_, ?_, ?_, ?_, ?_, lens_snoc hx hy h9, Nat.le_trans h10 (Nat.le_max_left _ _), Nat.max_le.mpr ⟨h11, hlen⟩⟩
    · rw [← hH7, ← hH6, ← hH5]
      exact (((sG4.put gdn).put glt).put gdr).put ga
    · rw [upd_ne nap.symm, ← hH7, upd_ne n5p.symm, ← hH6, upd_ne n4p.symm, ← hH5, upd_ne n7p.symm, ← hH4, upd_ne nap.symm, hp3, List.map_append]; rfl
    · have old : ∀ t u, H3 t = some (pT u) → (upd H7 a (.ins C dx (jf al p3 lt dr dn (max lg (ex al.length ps x ++ ex al.length ps y).length)))) t = some (pT u) := fun t u e => by
        have e1 : t ≠ a := ne_of e m1 (by intro z; cases z)
        have e2 : t ≠ lt := ne_of e m4 (by intro z; cases z)
        have e3 : t ≠ dr := ne_of e m5 (by intro z; cases z)
        have e4 : t ≠ dn := ne_of e m7 (by intro z; cases z)
        rw [upd_ne e1, ← hH7, upd_ne e3, ← hH6, upd_ne e2, ← hH5, upd_ne e4, ← hH4, upd_ne e1]; exact e
      have m3' : PairsAt (upd H7 a (.ins C dx (jf al p3 lt dr dn (max lg (ex al.length ps x ++ ex al.length ps y).length)))) as ps := ⟨m3.1, fun r u hu => let ⟨t, e1, e2⟩ := m3.2 r u hu; ⟨t, e1, old _ _ e2⟩⟩
      exact m3'.snoc (old _ _ mq)
    · rw [upd_ne na4.symm, ← hH7, upd_ne n45, ← hH6, upd_same, txs_snoc hx hy, List.map_append]; rfl
    · rw [upd_ne na5.symm, ← hH7, upd_same]; rfl
    · exact h6.snoc (fun r hr => pair_new hJ hcut hr)
    · rw [upd_ne na7.symm, ← hH7, upd_ne n57.symm, ← hH6, upd_ne n47.symm, ← hH5, upd_same]; rfl
    · refine h8.snoc hx hy (fun p hp e => text_new hJ hcut hp (tx_inj hA.nodup (ex_lt hJ hp) (Ls.append (ex_lt hJ hx) (ex_lt hJ hy)) e))
end
/-! ### __init__ -/
theorem JF.ofK {C : Addr} {H : Hp} {a lt dr dn : Addr} {al : List Nat} {ps : List (Nat × Nat)} (h : JF C H a lt dr dn al ps) : JF C H a lt dr dn al ps := h
theorem txs_nil (al : List Nat) : txs al [] = al.map fun c => tS [c] := by
  unfold txs
  apply List.ext_getElem?
  intro i
  rw [List.getElem?_map, List.getElem?_map]
  by_cases h : i < al.length
  · rw [List.getElem?_range (by simpa using h), List.getElem?_eq_getElem h]
    show some (jtx al [] i) = some (tS [al[i]])
    rw [jtx_letter h, List.getD_eq_getElem?_getD, List.getElem?_eq_getElem h]; rfl
  · rw [List.getElem?_eq_none (by simpa using h), List.getElem?_eq_none (by omega)]; rfl
def spJInit (C : Addr) : Sp := fun vs H Q _ => ∃ (F : Hp) (a dx l : Addr) (as : List Addr) (al : List Nat) (ps : List (Nat × Nat)), vs = [.ref a, .str (tS al), .ref l] ∧ Same F H ∧ F a = none ∧ H a = some (.ins C dx []) ∧
  F l = some (.lst (as.map V.ref)) ∧ PairsAt F as ps ∧ Al al ∧ JP al.length ps ∧ ps.length ≤ 60 ∧
  ∀ H', Same F H' → JAt C H' a al ps → Q .non H'
theorem scJInit : FnScope ["self", "alphabet", "pairs", "pair", "at", "letter"] ["self", "alphabet", "pairs"] (defScope sJInit) := ⟨rfl, rfl, rfl, by decide +kernel, rfl, by decide +kernel, by decide +kernel⟩
section
variable {P : Program} {w : World} {K : PySem.W.Frag} {mg : Str → Option Value} {base : Heap}
theorem ok_jinit {C f : Addr} {fd : FuncData} (F : Fun K "__init__" "Joins.__init__" sJInit f fd) (T : Gb K mg) (TJ : TJ K C) (Dchecked_alphabet : Df P w K mg base "checked_alphabet" ["alphabet"] 2 spChkAl)
    (Dtake : Mt P w K mg base C "take" ["self", "pair"] 4 (spTake C)) : FnOk P w K mg base CX0 5 f fd ["self", "alphabet", "pairs"] (spJInit C) := by
  refine F.ok scJInit (fun vs H Q E h => ?_) (fun cdv A outer s H vs Q E hr h => ?_)
  · obtain ⟨_, _, _, _, _, _, _, rfl, _⟩ := h
    rfl
  · obtain ⟨G, a, dx, l, as, al, ps, rfl, sG, ga, ha, hl, hps, hA, hJ, hfew, k⟩ := h
    have hm := hA.many
    have hlen : (tS al).length = al.length := tS_len al
    refine ⟨_, (pss_cons (ps_fld (pv 0) (pe_df Dchecked_alphabet (hr.mono (by decide)) (pa_cons (pv 1) pa_nil)) rfl)
      (pss_cons (ps_fld (pv 0) (pe_tup pa_nil) rfl)
      (pss_cons (ps_fld (pv 0) (pe_callTy (call_list_text rfl) (by rfl) T.list (by decide +kernel) (pa_cons (pv 1) pa_nil)) rfl)
      (pss_cons (ps_fld (pv 0) pe_dnewT rfl)
      (pss_cons (ps_fld (pv 0) (pe_dc (g := gTup K 2 (gCons (gName 4) (gCons (gName 5) gNil))) (own := [("at", 4), ("letter", 5)]) (by rfl) scJInit.nd (pi_enumS (by rfl) T.enumerate (pa_cons (pv 1) pa_nil)) (blkOk_by (own := [("at", 4), ("letter", 5)]) (N := ["self", "alphabet", "pairs", "pair", "at", "letter"]) (sc := defScope sJInit) (by decide +kernel)) (fun _ _ _ _ _ => (pg_tup rfl (pgs_cons (pg_name (i := 4) scJInit.nd rfl (Or.inl rfl)) (pgs_cons (pg_name (i := 5) scJInit.nd rfl (Or.inl rfl)) pgs_nil)))) (fun _ _ _ _ _ => pts_nil) (fun _ _ _ _ _ => (pv 5)) (fun _ _ _ _ _ => (pv 4))) rfl)
      (pss_cons (ps_fld (pv 0) pe_int rfl)
      (pss_one (ps_for PassesOwn.never rfl (pi_list (pv 2)) (pg_name (i := 3) scJInit.nd rfl (Or.inl rfl))
        (pss_one (ps_expr (pe_mt Dtake TJ.cl (hr.mono (by decide)) (pv 0) (pa_cons (pe_callTy call_tuple_of (by rfl) T.tuple (by decide +kernel) (pa_cons (pv 3) pa_nil)) pa_nil)))))))))))), ?_⟩
    -- self.alphabet = checked_alphabet(alphabet)
    refine ⟨_, rfl, al, rfl, hA, _, rfl, a, C, dx, _, rfl, ha, TJ.cl, TJ.n1, by show 0 < 1000; decide, ?_⟩
    have sG1 : Same G (upd H a (.ins C dx (putF "alphabet" (.str (tS al)) []))) := sG.put ga
    have a1 : (upd H a (.ins C dx (putF "alphabet" (.str (tS al)) []))) a = some (.ins C dx [("alphabet", .str (tS al))]) := upd_same
    generalize upd H a (.ins C dx (putF "alphabet" (.str (tS al)) [])) = H1 at sG1 a1 ⊢
    -- self.pairs = ()
    refine ⟨Nat.zero_le _, fun tp htp => ?_⟩
    have n1 : a ≠ tp := ne_of_none a1 htp
    have gtp : G tp = none := sG1.free htp
    refine ⟨_, rfl, a, C, dx, _, rfl, by rw [upd_ne n1]; exact a1, TJ.cl, TJ.n2, by show 1 < 1000; decide, ?_⟩
    rw [putF_new (fs := [("alphabet", V.str (tS al))]) (by show ("pairs" : Str) ∉ (["alphabet"] : List Str); decide +kernel)]
    generalize hH2 : upd (upd H1 tp (.tup [])) a _ = H2
    have sG2 : Same G H2 := by rw [← hH2]; exact (sG1.put gtp).put ga
    have a2 : H2 a = some (.ins C dx [("alphabet", .str (tS al)), ("pairs", .ref tp)]) := by rw [← hH2]; exact upd_same
    have tp2 : H2 tp = some (.tup []) := by rw [← hH2, upd_ne n1.symm]; exact upd_same
    -- self.texts = list(alphabet)
    refine ⟨_, rfl, _, rfl, by rw [hlen]; exact line_big (by omega), fun lt hlt => ?_⟩
    have n2 : a ≠ lt := ne_of_none a2 hlt
    have n3 : tp ≠ lt := ne_of_none tp2 hlt
    have glt : G lt = none := sG2.free hlt
    refine ⟨_, rfl, a, C, dx, _, rfl, by rw [upd_ne n2]; exact a2, TJ.cl, TJ.n3, by show 2 < 1000; decide, ?_⟩
    rw [putF_new (fs := [("alphabet", V.str (tS al)), ("pairs", V.ref tp)]) (by show ("texts" : Str) ∉ (["alphabet", "pairs"] : List Str); decide +kernel)]
    generalize hH3 : upd (upd H2 lt _) a _ = H3
    have sG3 : Same G H3 := by rw [← hH3]; exact (sG2.put glt).put ga
    have a3 : H3 a = some (.ins C dx [("alphabet", .str (tS al)), ("pairs", .ref tp), ("texts", .ref lt)]) := by rw [← hH3]; exact upd_same
    have tp3 : H3 tp = some (.tup []) := by rw [← hH3, upd_ne n1.symm, upd_ne n3]; exact tp2
    have lt3 : H3 lt = some (.lst ((txs al []).map V.str)) := by rw [← hH3, upd_ne n2.symm, upd_same, txs_nil, List.map_map]; rfl
    -- self.ranks = {}
    refine fun dr hdr => ?_
    have n4 : a ≠ dr := ne_of_none a3 hdr
    have n5 : tp ≠ dr := ne_of_none tp3 hdr
    have n6 : lt ≠ dr := ne_of_none lt3 hdr
    have gdr : G dr = none := sG3.free hdr
    refine ⟨_, rfl, a, C, dx, _, rfl, by rw [upd_ne n4]; exact a3, TJ.cl, TJ.n4, by show 3 < 1000; decide, ?_⟩
    rw [putF_new (fs := [("alphabet", V.str (tS al)), ("pairs", V.ref tp), ("texts", V.ref lt)]) (by show ("ranks" : Str) ∉ (["alphabet", "pairs", "texts"] : List Str); decide +kernel)]
    generalize hH4 : upd (upd H3 dr _) a _ = H4
    have sG4 : Same G H4 := by rw [← hH4]; exact (sG3.put gdr).put ga
    have a4 : H4 a = some (.ins C dx [("alphabet", .str (tS al)), ("pairs", .ref tp), ("texts", .ref lt), ("ranks", .ref dr)]) := by rw [← hH4]; exact upd_same
    have tp4 : H4 tp = some (.tup []) := by rw [← hH4, upd_ne n1.symm, upd_ne n5]; exact tp3
    have lt4 : H4 lt = some (.lst ((txs al []).map V.str)) := by rw [← hH4, upd_ne n2.symm, upd_ne n6]; exact lt3
    have dr4 : H4 dr = some (.dT []) := by rw [← hH4, upd_ne n4.symm]; exact upd_same
    -- self.numbers = {..}
    refine ⟨_, rfl, _, rfl, fun dn hdn => dc_it walk_enumS (fun i H' => Same H4 H' ∧ ∃ kvs, H' dn = some (.dK kvs) ∧ kvs.length ≤ i ∧ (∀ p, p < i → valV kvs (.inr (jtx al [] p)) = some (nV p)) ∧ ∀ k v, valV kvs k = some v → ∃ p, p < i ∧ k = .inr (jtx al [] p) ∧ v = nV p) ?_ (fun _ _ _ _ => trivial) ?_ ?_⟩
    · exact ⟨Same.new hdn, [], upd_same, Nat.le_refl _, fun p hp => absurd hp (by omega), fun k v h => by cases h⟩
    · rintro i v H5 H6 hi ⟨s5, kvs, e5, l5, v5, i5⟩ ⟨t, c, rfl, ht, hc, rfl⟩
      have hi' : i < al.length := by
        have q : i < (tS al).cps.size := hi
        simpa [tS] using q
      have hc' : al[i]? = some c := by simpa [tS] using hc
      have ej : tS [c] = jtx al [] i := by
        rw [jtx_letter hi', List.getD_eq_getElem?_getD, hc']; rfl
      have nt : dn ≠ t := ne_of_none e5 ht
      refine ⟨t, _, rfl, SqT.of upd_same, rfl, _, _, rfl, _, _, rfl, rfl, rfl, tt_yes ?_⟩
      refine ⟨_, rfl, _, rfl, kvs, .inr (tS [c]), rfl, by rw [upd_ne nt]; exact e5, line_big' (by omega), ?_⟩
      refine ⟨(s5.put (s5.free ht)).put hdn, _, upd_same, by have := length_putK kvs (.inr (tS [c])) (nV i); exact Nat.le_trans this (by omega), fun p hp => ?_, fun k v h => ?_⟩
      · show valV (putK kvs (.inr (tS [c])) (nV i)) _ = _
        rw [valV_put, ej]
        by_cases e : p = i
        · subst e; rw [if_pos rfl]
        · rw [if_neg]
          · exact v5 p (by omega)
          · intro q
            have := tx_inj hA.nodup (L := [p]) (M := [i]) (fun a ha => by simp at ha; omega) (fun a ha => by simp at ha; omega) (by
              have q' := Sum.inr.inj q
              rw [jtx, jtx, ex_letter (by omega), ex_letter hi'] at q'; exact q')
            simp at this; omega
      · have h' : valV (putK kvs (.inr (tS [c])) (nV i)) k = some v := h
        rw [valV_put, ej] at h'
        by_cases e : k = .inr (jtx al [] i)
        · rw [if_pos e] at h'; cases h'
          exact ⟨i, by omega, e, rfl⟩
        · rw [if_neg e] at h'
          obtain ⟨p, hp, e1, e2⟩ := i5 k v h'
          exact ⟨p, by omega, e1, e2⟩
    · rintro H5 ⟨s5, kvs, e5, l5, v5, i5⟩
      have en : (tS al).cps.size = al.length := hlen
      rw [en] at l5 v5 i5
      have a5 := s5 _ _ a4
      have tp5 := s5 _ _ tp4
      have lt5 := s5 _ _ lt4
      have dr5 := s5 _ _ dr4
      have gdn : G dn = none := sG4.free hdn
      refine ⟨_, rfl, a, C, dx, _, rfl, a5, TJ.cl, TJ.n5, by show 4 < 1000; decide, ?_⟩
      rw [putF_new (fs := [("alphabet", V.str (tS al)), ("pairs", V.ref tp), ("texts", V.ref lt), ("ranks", V.ref dr)]) (by show ("numbers" : Str) ∉ (["alphabet", "pairs", "texts", "ranks"] : List Str); decide +kernel)]
      -- self.longest = 1
      refine ⟨_, rfl, a, C, dx, _, rfl, upd_same, TJ.cl, TJ.n6, by show 5 < 1000; decide, ?_⟩
      rw [putF_new (fs := ([("alphabet", V.str (tS al)), ("pairs", V.ref tp), ("texts", V.ref lt), ("ranks", V.ref dr)] : List (Str × V)) ++ ([("numbers", V.ref dn)] : List (Str × V))) (by show ("longest" : Str) ∉ (["alphabet", "pairs", "texts", "ranks", "numbers"] : List Str); decide +kernel), upd_upd]
      generalize hH6 : upd H5 a _ = H6
      have sG6 : Same G H6 := by rw [← hH6]; exact (sG4.trans s5).put ga
      have nat : a ≠ tp := n1
      have nan : a ≠ dn := ne_of a5 e5 (by intro z; cases z)
      have J0 : JF C H6 a lt dr dn al [] := by
        refine ⟨dx, tp, 1, [], [], kvs, by rw [← hH6]; exact upd_same, by rw [← hH6, upd_ne n1.symm]; exact tp5, ⟨rfl, fun r p e => by simp at e⟩, by rw [← hH6, upd_ne n2.symm]; exact lt5, by rw [← hH6, upd_ne n4.symm]; exact dr5,
          ⟨Nat.le_refl _, fun r hr => absurd hr (by simp), fun k v h => by cases h⟩, by rw [← hH6, upd_ne nan.symm]; exact e5, ⟨by simpa using l5, fun p hp => v5 p (by simpa using hp), fun k v h => by simpa using i5 k v h⟩, fun p hp => ?_, Nat.le_refl _, by decide⟩
        rw [ex_letter (by simpa using hp)]; simp
      refine ⟨_, rfl, l, rfl, ⟨_, SqL.of (sG6 _ _ hl)⟩, for_list (K := K) (a := l) (xs := as.map V.ref) (fun i σ H' => ∃ v, σ = [some (.ref a), some (.str (tS al)), some (.ref l), v, none, none] ∧ Same G H' ∧ JF C H' a lt dr dn al (ps.take i)) ⟨_, rfl, sG6, by rw [List.take_zero]; exact J0⟩ (fun i σ H' _ ⟨_, _, s7, _⟩ => SqL.of (s7 _ _ hl)) ?_ ?_⟩
      · rintro i x σ H7 hi ⟨v, rfl, s7, J7⟩
        have hi0 : i < as.length := by
          have := (List.getElem?_eq_some_iff.mp hi).1
          simpa using this
        have hi1 : i < ps.length := by rw [← hps.1]; exact hi0
        obtain ⟨t, ht, hT⟩ := hps.2 i _ (prf_get hi1)
        have ex : x = .ref t := by
          rw [List.getElem?_map, ht] at hi; exact (Option.some.inj hi).symm
        subst ex
        have hT7 := s7 _ _ hT
        obtain ⟨dx7, tp7, lg7, as7, kr7, kn7, h71, _⟩ := J7.ex
        have epre : ps = ps.take i ++ prf ps i :: ps.drop (i + 1) := by
          have e1 : ps.drop i = prf ps i :: ps.drop (i + 1) := by
            rw [List.drop_eq_getElem_cons hi1]
            congr 1
            have := prf_get hi1
            rw [List.getElem?_eq_getElem hi1] at this
            exact Option.some.inj this
          rw [← e1, List.take_append_drop]
        have JN : JP al.length (ps.take i ++ prf ps i :: ps.drop (i + 1)) := by rw [← epre]; exact hJ
        obtain ⟨nx1, nx2, nx3, nx4⟩ := JN.next
        have etk : ps.take (i + 1) = ps.take i ++ [prf ps i] := by rw [List.take_add_one, prf_get hi1]; rfl
        refine ⟨_, rfl, a, dx7, _, rfl, h71, jf_no _ _ _ _ _ _ (by decide +kernel), _, rfl, t, _, rfl, .inr ⟨SqT.of hT7, ?_⟩⟩
        refine ⟨G, a, t, lt, dr, dn, al, ps.take i, (prf ps i).1, (prf ps i).2, rfl, s7, ga, glt, gdr, gdn, hA, JN.left, by rw [List.length_take]; omega, J7, hT7, nx1, nx2, nx3, nx4, fun H8 s8 J8 => ?_⟩
        exact ⟨_, rfl, s8, by rw [etk]; exact J8⟩
      · rintro σ H7 ⟨v, rfl, s7, J7⟩
        rw [List.length_map, hps.1, List.take_length] at J7
        exact k H7 s7 ⟨hA, hJ, hfew, lt, dr, dn, J7⟩
end
end Rj

set_option Elab.async false
set_option linter.all false
set_option maxRecDepth 100000
namespace Rj
open PySem L2 PyProof.Rows
def oV : Option Nat → V
  | none => .non
  | some k => nV k
/-- the tuples of a spine -/
def SpineAt (H : Hp) (ts : List Addr) (es : List (Nat × Option Nat)) : Prop := ts.length = es.length ∧ ∀ (i : Nat) e, es[i]? = some e → ∃ t, ts[i]? = some t ∧ H t = some (.tup [nV e.1, oV e.2])
theorem SpineAt.same {H H' : Hp} {ts : List Addr} {es : List (Nat × Option Nat)} (h : SpineAt H ts es) (s : Same H H') : SpineAt H' ts es := ⟨h.1, fun i e he => let ⟨t, a, b⟩ := h.2 i e he; ⟨t, a, s _ _ b⟩⟩
theorem SpineAt.snoc {H : Hp} {ts : List Addr} {es : List (Nat × Option Nat)} (h : SpineAt H ts es) {t : Addr} {e : Nat × Option Nat} (he : H t = some (.tup [nV e.1, oV e.2])) : SpineAt H (ts ++ [t]) (es ++ [e]) := by
  refine ⟨by simp [h.1], fun i f hf => ?_⟩
  by_cases hi : i < es.length
  · rw [List.getElem?_append_left hi] at hf
    obtain ⟨u, a, b⟩ := h.2 i f hf
    exact ⟨u, by rw [List.getElem?_append_left (by rw [h.1]; exact hi)]; exact a, b⟩
  · have hl := (List.getElem?_eq_some_iff.mp hf).1
    simp at hl
    have : i = es.length := by omega
    subst this
    simp at hf
    subst hf
    exact ⟨t, by rw [← h.1]; simp, he⟩

/-! ### right_spine -/
def spRSp (C : Addr) : Sp := fun vs H Q _ => ∃ (a : Addr) (al : List Nat) (ps : List (Nat × Nat)) (p : Nat), vs = [.ref a, nV p] ∧ JAt C H a al ps ∧ p < al.length + ps.length ∧
  ∀ H' q ts, Same H H' → H' q = some (.tup (ts.map V.ref)) → SpineAt H' ts (spineO Prod.snd ps al.length p) → Q (.ref q) H'
theorem scRSp : FnScope ["joins", "piece", "parts", "spine"] ["joins", "piece"] (defScope sRSp) := ⟨rfl, rfl, rfl, by decide +kernel, rfl, by decide +kernel, by decide +kernel⟩
section
variable {P : Program} {w : World} {K : PySem.W.Frag} {mg : Str → Option Value} {base : Heap}
theorem ok_RSp {C f : Addr} {fd : FuncData} (F : Fun K "right_spine" "right_spine" sRSp f fd) (T : Gb K mg) (TJ : TJ K C) (Dparts_of : Mt P w K mg base C "parts_of" ["self", "piece"] 4 (spPartsOf C)) : FnOk P w K mg base CX0 5 f fd ["joins", "piece"] (spRSp C) := by
  refine F.ok scRSp (fun vs H Q E h => ?_) (fun cdv A outer s H vs Q E hr h => ?_)
  · obtain ⟨_, _, _, _, rfl, _⟩ := h
    rfl
  · obtain ⟨a, al, ps, p, rfl, J, hp, k⟩ := h
    obtain ⟨lt, dr, dn, JFF⟩ := J.at_
    obtain ⟨dx, tp, lg, as, kr, kn, h1, h2, h3, h4, h5, h6, _⟩ := JFF.ex
    have hu := hu_of hr
    have wf := J.jp.proper.1
    have few := J.few
    refine ⟨_, (pss_cons (ps_set (i := 2) scRSp.nd rfl (Or.inl rfl) (pe_mt Dparts_of TJ.cl (hr.mono (by decide)) (pv 0) (pa_cons (pv 1) pa_nil)))
      (pss_cons (ps_set (i := 3) scRSp.nd rfl (Or.inl rfl) (pe_lst (pa_cons (pe_tup (pa_cons (pv 1) (pa_cons pe_non pa_nil))) pa_nil)))
      (pss_cons (ps_while PassesOwn.never (pt_cmp (pc_notN (pv 2)))
        (pss_cons (ps_expr (pe_bm PySem.F.plainAttrs_list PySem.F.slot_list_append PySem.F.type_list_append mt_append (pv 3) (pa_cons (pe_tup (pa_cons (pe_ix ix_tup (pv 2) pe_int (fun _ _ => rfl)) (pa_cons (pe_dget hu (pe_fld (pv 0) rfl) (pv 2) (fun _ _ => rfl)) pa_nil))) pa_nil)))
          (pss_one (ps_set (i := 2) scRSp.nd rfl (Or.inl rfl) (pe_mt Dparts_of TJ.cl (hr.mono (by decide)) (pv 0) (pa_cons (pe_ix ix_tup (pv 2) pe_int (fun _ _ => rfl)) pa_nil))))))
      (pss_one (ps_ret (pe_callTy call_tuple_of (by rfl) T.tuple (by decide +kernel) (pa_cons (pv 3) pa_nil))))))), ?_⟩
    refine ⟨_, rfl, a, dx, _, rfl, h1, jf_no _ _ _ _ _ _ (by decide +kernel), _, rfl, a, al, ps, p, rfl, J, hp, fun pv0 hpv => ?_⟩
    refine ⟨_, rfl, by show 2 ≤ sizeLine; decide, fun t ht => ⟨by show 1 ≤ sizeLine; decide, fun l hl => ?_⟩⟩
    have s1 : Same H (upd H t (.tup [nV p, .non])) := Same.new ht
    have s2 : Same H (upd (upd H t (.tup [nV p, .non])) l (.lst [.ref t])) := s1.trans (Same.new hl)
    have t2 : (upd (upd H t (.tup [nV p, .non])) l (.lst [.ref t])) t = some (.tup [nV p, .non]) := (Same.new hl) _ _ upd_same
    have l2 : (upd (upd H t (.tup [nV p, .non])) l (.lst [.ref t])) l = some (.lst ([t].map V.ref)) := upd_same
    have hlH : H l = none := s1.free hl
    have p2 : PartsV al.length ps p pv0 (upd (upd H t (.tup [nV p, .non])) l (.lst [.ref t])) := hpv.imp (fun z => z) fun ⟨k, u, e1, e2, e3, e4⟩ => ⟨k, u, e1, e2, e3, s2 _ _ e4⟩
    generalize upd (upd H t (.tup [nV p, .non])) l (.lst [.ref t]) = H1 at s2 t2 l2 p2 ⊢
    refine ⟨fun m σ H' => ∃ (cur : Nat) (v : V) (ts : List Addr) (es : List (Nat × Option Nat)), σ = [some (.ref a), some (nV p), some v, some (.ref l)] ∧ m = cur ∧ cur < al.length + ps.length ∧ PartsV al.length ps cur v H' ∧ Same H H' ∧ H' l = some (.lst (ts.map V.ref)) ∧ SpineAt H' ts es ∧ es.length + cur ≤ p + 1 ∧
      spineO Prod.snd ps al.length p = es ++ (spine Prod.snd ps al.length cur).map fun e => (e.1, some e.2), ⟨p, p, pv0, [t], [(p, none)], rfl, rfl, hp, p2, s2, l2, ?_, by simp; omega, rfl⟩, ?_⟩
    · refine ⟨rfl, fun i e he => ?_⟩
      cases i with
      | zero => simp at he; subst he; exact ⟨t, rfl, t2⟩
      | succ i => simp at he
    · rintro m σ H2 ⟨cur, v, ts, es, rfl, rfl, hcur, hv, s3, l3, sp3, len3, e3⟩
      refine ⟨_, rfl, _, rfl, ?_⟩
      rcases hv with ⟨hb, rfl⟩ | ⟨kk, u, rfl, hkk, rfl, hu2⟩
      · refine iteF ⟨_, rfl, l, _, rfl, .inl ⟨SqL.of l3, fun q hq => ?_⟩⟩
        refine k _ q ts (s3.trans (Same.new hq)) upd_same ?_
        have e4 : spineO Prod.snd ps al.length p = es := by rw [e3, spine_letter hb]; simp
        rw [e4]
        exact sp3.same (Same.new hq)
      · refine iteT ⟨_, fun _ _ z => z, ?_⟩
        have g := DGet.t (k := pk (prf ps kk)) (s3 _ _ h5) hu2
        rw [h6.val kk hkk] at g
        have hside : IsSide (Prod.snd : Nat × Nat → Nat) := .inr rfl
        have sl := side_lt hside wf hkk
        refine ⟨_, rfl, .inl ⟨rfl, _, SqL.of l3⟩, _, rfl, u, _, _, _, rfl, rfl, SqT.of hu2, at_of (j := 1) rfl rfl, _, rfl, a, C, dx, _, _, rfl, s3 _ _ h1, TJ.cl, TJ.n4, lookup_at (i := 3) (jf_nd ..) rfl, _, rfl, dr, _, rfl, g, by show 2 ≤ sizeLine; decide, fun t2 ht2 => ?_⟩
        have nl : l ≠ t2 := ne_of_none l3 ht2
        refine ⟨l, _, _, rfl, rfl, by rw [upd_ne nl]; exact l3, by rw [List.length_map, sp3.1]; have := J.many; exact line_big' (by omega), ?_⟩
        have s4 : Same H (upd (upd H2 t2 (.tup [nV (Prod.snd (prf ps kk)), nV kk])) l (.lst (ts.map V.ref ++ [.ref t2]))) := (s3.trans (Same.new ht2)).put hlH
        have nt : ∀ x y, H2 x = some (.tup y) → x ≠ l := fun x y e => ne_of e l3 (by intro z; cases z)
        have old : ∀ x y, H2 x = some (.tup y) → (upd (upd H2 t2 (.tup [nV (Prod.snd (prf ps kk)), nV kk])) l (.lst (ts.map V.ref ++ [.ref t2]))) x = some (.tup y) := fun x y e => by
          rw [upd_ne (nt x y e), upd_ne (ne_of_none e ht2)]; exact e
        have l4 : (upd (upd H2 t2 (.tup [nV (Prod.snd (prf ps kk)), nV kk])) l (.lst (ts.map V.ref ++ [.ref t2]))) l = some (.lst ((ts ++ [t2]).map V.ref)) := by rw [upd_same, List.map_append]; rfl
        have t4 : (upd (upd H2 t2 (.tup [nV (Prod.snd (prf ps kk)), nV kk])) l (.lst (ts.map V.ref ++ [.ref t2]))) t2 = some (.tup [nV (Prod.snd (prf ps kk)), nV kk]) := by rw [upd_ne nl.symm, upd_same]
        have u4 := old _ _ hu2
        have sp4 : SpineAt (upd (upd H2 t2 (.tup [nV (Prod.snd (prf ps kk)), nV kk])) l (.lst (ts.map V.ref ++ [.ref t2]))) (ts ++ [t2]) (es ++ [(Prod.snd (prf ps kk), some kk)]) :=
          SpineAt.snoc ⟨sp3.1, fun i e he => let ⟨x, e1, e2⟩ := sp3.2 i e he; ⟨x, e1, old _ _ e2⟩⟩ t4
        generalize upd (upd H2 t2 (.tup [nV (Prod.snd (prf ps kk)), nV kk])) l (.lst (ts.map V.ref ++ [.ref t2])) = H4 at s4 l4 t4 u4 sp4 ⊢
        refine ⟨_, rfl, a, dx, _, rfl, s4 _ _ h1, jf_no _ _ _ _ _ _ (by decide +kernel), _, rfl, u, _, _, _, rfl, rfl, SqT.of u4, at_of (j := 1) rfl rfl, a, al, ps, Prod.snd (prf ps kk), rfl, J.same s4, by omega, fun v5 hv5 => ?_⟩
        refine ⟨Prod.snd (prf ps kk), by omega, Prod.snd (prf ps kk), v5, ts ++ [t2], es ++ [(Prod.snd (prf ps kk), some kk)], rfl, rfl, by omega, hv5, s4, l4, sp4, by simp; omega, ?_⟩
        rw [e3, spine_rank hside wf hkk]; simp
end

/-! ### left_spine -/
def spLSp (C : Addr) : Sp := fun vs H Q _ => ∃ (a : Addr) (al : List Nat) (ps : List (Nat × Nat)) (p : Nat), vs = [.ref a, nV p] ∧ JAt C H a al ps ∧ p < al.length + ps.length ∧
  ∀ H' q ts, Same H H' → H' q = some (.tup (ts.map V.ref)) → SpineAt H' ts (spineO Prod.fst ps al.length p) → Q (.ref q) H'
theorem scLSp : FnScope ["joins", "piece", "parts", "spine"] ["joins", "piece"] (defScope sLSp) := ⟨rfl, rfl, rfl, by decide +kernel, rfl, by decide +kernel, by decide +kernel⟩
section
variable {P : Program} {w : World} {K : PySem.W.Frag} {mg : Str → Option Value} {base : Heap}
theorem ok_LSp {C f : Addr} {fd : FuncData} (F : Fun K "left_spine" "left_spine" sLSp f fd) (T : Gb K mg) (TJ : TJ K C) (Dparts_of : Mt P w K mg base C "parts_of" ["self", "piece"] 4 (spPartsOf C)) : FnOk P w K mg base CX0 5 f fd ["joins", "piece"] (spLSp C) := by
  refine F.ok scLSp (fun vs H Q E h => ?_) (fun cdv A outer s H vs Q E hr h => ?_)
  · obtain ⟨_, _, _, _, rfl, _⟩ := h
    rfl
  · obtain ⟨a, al, ps, p, rfl, J, hp, k⟩ := h
    obtain ⟨lt, dr, dn, JFF⟩ := J.at_
    obtain ⟨dx, tp, lg, as, kr, kn, h1, h2, h3, h4, h5, h6, _⟩ := JFF.ex
    have hu := hu_of hr
    have wf := J.jp.proper.1
    have few := J.few
    refine ⟨_, (pss_cons (ps_set (i := 2) scLSp.nd rfl (Or.inl rfl) (pe_mt Dparts_of TJ.cl (hr.mono (by decide)) (pv 0) (pa_cons (pv 1) pa_nil)))
      (pss_cons (ps_set (i := 3) scLSp.nd rfl (Or.inl rfl) (pe_lst (pa_cons (pe_tup (pa_cons (pv 1) (pa_cons pe_non pa_nil))) pa_nil)))
      (pss_cons (ps_while PassesOwn.never (pt_cmp (pc_notN (pv 2)))
        (pss_cons (ps_expr (pe_bm PySem.F.plainAttrs_list PySem.F.slot_list_append PySem.F.type_list_append mt_append (pv 3) (pa_cons (pe_tup (pa_cons (pe_ix ix_tup (pv 2) pe_int (fun _ _ => rfl)) (pa_cons (pe_dget hu (pe_fld (pv 0) rfl) (pv 2) (fun _ _ => rfl)) pa_nil))) pa_nil)))
          (pss_one (ps_set (i := 2) scLSp.nd rfl (Or.inl rfl) (pe_mt Dparts_of TJ.cl (hr.mono (by decide)) (pv 0) (pa_cons (pe_ix ix_tup (pv 2) pe_int (fun _ _ => rfl)) pa_nil))))))
      (pss_one (ps_ret (pe_callTy call_tuple_of (by rfl) T.tuple (by decide +kernel) (pa_cons (pv 3) pa_nil))))))), ?_⟩
    refine ⟨_, rfl, a, dx, _, rfl, h1, jf_no _ _ _ _ _ _ (by decide +kernel), _, rfl, a, al, ps, p, rfl, J, hp, fun pv0 hpv => ?_⟩
    refine ⟨_, rfl, by show 2 ≤ sizeLine; decide, fun t ht => ⟨by show 1 ≤ sizeLine; decide, fun l hl => ?_⟩⟩
    have s1 : Same H (upd H t (.tup [nV p, .non])) := Same.new ht
    have s2 : Same H (upd (upd H t (.tup [nV p, .non])) l (.lst [.ref t])) := s1.trans (Same.new hl)
    have t2 : (upd (upd H t (.tup [nV p, .non])) l (.lst [.ref t])) t = some (.tup [nV p, .non]) := (Same.new hl) _ _ upd_same
    have l2 : (upd (upd H t (.tup [nV p, .non])) l (.lst [.ref t])) l = some (.lst ([t].map V.ref)) := upd_same
    have hlH : H l = none := s1.free hl
    have p2 : PartsV al.length ps p pv0 (upd (upd H t (.tup [nV p, .non])) l (.lst [.ref t])) := hpv.imp (fun z => z) fun ⟨k, u, e1, e2, e3, e4⟩ => ⟨k, u, e1, e2, e3, s2 _ _ e4⟩
    generalize upd (upd H t (.tup [nV p, .non])) l (.lst [.ref t]) = H1 at s2 t2 l2 p2 ⊢
    refine ⟨fun m σ H' => ∃ (cur : Nat) (v : V) (ts : List Addr) (es : List (Nat × Option Nat)), σ = [some (.ref a), some (nV p), some v, some (.ref l)] ∧ m = cur ∧ cur < al.length + ps.length ∧ PartsV al.length ps cur v H' ∧ Same H H' ∧ H' l = some (.lst (ts.map V.ref)) ∧ SpineAt H' ts es ∧ es.length + cur ≤ p + 1 ∧
      spineO Prod.fst ps al.length p = es ++ (spine Prod.fst ps al.length cur).map fun e => (e.1, some e.2), ⟨p, p, pv0, [t], [(p, none)], rfl, rfl, hp, p2, s2, l2, ?_, by simp; omega, rfl⟩, ?_⟩
    · refine ⟨rfl, fun i e he => ?_⟩
      cases i with
      | zero => simp at he; subst he; exact ⟨t, rfl, t2⟩
      | succ i => simp at he
    · rintro m σ H2 ⟨cur, v, ts, es, rfl, rfl, hcur, hv, s3, l3, sp3, len3, e3⟩
      refine ⟨_, rfl, _, rfl, ?_⟩
      rcases hv with ⟨hb, rfl⟩ | ⟨kk, u, rfl, hkk, rfl, hu2⟩
      · refine iteF ⟨_, rfl, l, _, rfl, .inl ⟨SqL.of l3, fun q hq => ?_⟩⟩
        refine k _ q ts (s3.trans (Same.new hq)) upd_same ?_
        have e4 : spineO Prod.fst ps al.length p = es := by rw [e3, spine_letter hb]; simp
        rw [e4]
        exact sp3.same (Same.new hq)
      · refine iteT ⟨_, fun _ _ z => z, ?_⟩
        have g := DGet.t (k := pk (prf ps kk)) (s3 _ _ h5) hu2
        rw [h6.val kk hkk] at g
        have hside : IsSide (Prod.fst : Nat × Nat → Nat) := .inl rfl
        have sl := side_lt hside wf hkk
        refine ⟨_, rfl, .inl ⟨rfl, _, SqL.of l3⟩, _, rfl, u, _, _, _, rfl, rfl, SqT.of hu2, at_of (j := 0) rfl rfl, _, rfl, a, C, dx, _, _, rfl, s3 _ _ h1, TJ.cl, TJ.n4, lookup_at (i := 3) (jf_nd ..) rfl, _, rfl, dr, _, rfl, g, by show 2 ≤ sizeLine; decide, fun t2 ht2 => ?_⟩
        have nl : l ≠ t2 := ne_of_none l3 ht2
        refine ⟨l, _, _, rfl, rfl, by rw [upd_ne nl]; exact l3, by rw [List.length_map, sp3.1]; have := J.many; exact line_big' (by omega), ?_⟩
        have s4 : Same H (upd (upd H2 t2 (.tup [nV (Prod.fst (prf ps kk)), nV kk])) l (.lst (ts.map V.ref ++ [.ref t2]))) := (s3.trans (Same.new ht2)).put hlH
        have nt : ∀ x y, H2 x = some (.tup y) → x ≠ l := fun x y e => ne_of e l3 (by intro z; cases z)
        have old : ∀ x y, H2 x = some (.tup y) → (upd (upd H2 t2 (.tup [nV (Prod.fst (prf ps kk)), nV kk])) l (.lst (ts.map V.ref ++ [.ref t2]))) x = some (.tup y) := fun x y e => by
          rw [upd_ne (nt x y e), upd_ne (ne_of_none e ht2)]; exact e
        have l4 : (upd (upd H2 t2 (.tup [nV (Prod.fst (prf ps kk)), nV kk])) l (.lst (ts.map V.ref ++ [.ref t2]))) l = some (.lst ((ts ++ [t2]).map V.ref)) := by rw [upd_same, List.map_append]; rfl
        have t4 : (upd (upd H2 t2 (.tup [nV (Prod.fst (prf ps kk)), nV kk])) l (.lst (ts.map V.ref ++ [.ref t2]))) t2 = some (.tup [nV (Prod.fst (prf ps kk)), nV kk]) := by rw [upd_ne nl.symm, upd_same]
        have u4 := old _ _ hu2
        have sp4 : SpineAt (upd (upd H2 t2 (.tup [nV (Prod.fst (prf ps kk)), nV kk])) l (.lst (ts.map V.ref ++ [.ref t2]))) (ts ++ [t2]) (es ++ [(Prod.fst (prf ps kk), some kk)]) :=
          SpineAt.snoc ⟨sp3.1, fun i e he => let ⟨x, e1, e2⟩ := sp3.2 i e he; ⟨x, e1, old _ _ e2⟩⟩ t4
        generalize upd (upd H2 t2 (.tup [nV (Prod.fst (prf ps kk)), nV kk])) l (.lst (ts.map V.ref ++ [.ref t2])) = H4 at s4 l4 t4 u4 sp4 ⊢
        refine ⟨_, rfl, a, dx, _, rfl, s4 _ _ h1, jf_no _ _ _ _ _ _ (by decide +kernel), _, rfl, u, _, _, _, rfl, rfl, SqT.of u4, at_of (j := 0) rfl rfl, a, al, ps, Prod.fst (prf ps kk), rfl, J.same s4, by omega, fun v5 hv5 => ?_⟩
        refine ⟨Prod.fst (prf ps kk), by omega, Prod.fst (prf ps kk), v5, ts ++ [t2], es ++ [(Prod.fst (prf ps kk), some kk)], rfl, rfl, by omega, hv5, s4, l4, sp4, by simp; omega, ?_⟩
        rw [e3, spine_rank hside wf hkk]; simp
end
end Rj

set_option Elab.async false
set_option linter.all false
set_option maxRecDepth 100000
namespace Rj
open PySem L2 PyProof.Rows
/-! ### crossing -/
def spCross (C : Addr) : Sp := fun vs H Q _ => ∃ (a : Addr) (al : List Nat) (ps : List (Nat × Nat)) (p q : Nat), vs = [.ref a, nV p, nV q] ∧ JAt C H a al ps ∧ p < al.length + ps.length ∧ q < al.length + ps.length ∧
  ∀ H' v, Same H H' → ((v = .non ∧ sb al.length ps p q) ∨ ∃ r, v = nV r ∧ ¬ sb al.length ps p q) → Q v H'
theorem scCross : FnScope ["joins", "left", "right", "best", "ahead", "behind", "x", "x_bound", "y", "y_bound", "rank"] ["joins", "left", "right"] (defScope sCross) := ⟨rfl, rfl, rfl, by decide +kernel, rfl, by decide +kernel, by decide +kernel⟩
/-- some join crosses at the places gone through so far -/
def CrsTo (ps : List (Nat × Nat)) (es fs : List (Nat × Option Nat)) (i j : Nat) : Prop := ∃ (i' j' : Nat) (e f : Nat × Option Nat) (r : Nat), (i' < i ∨ (i' = i ∧ j' < j)) ∧ es[i']? = some e ∧ fs[j']? = some f ∧ Crs ps e f r
theorem crsTo_row {ps : List (Nat × Nat)} {es fs : List (Nat × Option Nat)} {i : Nat} : CrsTo ps es fs i fs.length ↔ CrsTo ps es fs (i + 1) 0 := by
  constructor
  · rintro ⟨i', j', e, f, r, h, h1, h2, h3⟩
    exact ⟨i', j', e, f, r, by omega, h1, h2, h3⟩
  · rintro ⟨i', j', e, f, r, h, h1, h2, h3⟩
    have := (List.getElem?_eq_some_iff.mp h2).1
    exact ⟨i', j', e, f, r, by omega, h1, h2, h3⟩
theorem crsTo_next {ps : List (Nat × Nat)} {es fs : List (Nat × Option Nat)} {i j : Nat} {e f : Nat × Option Nat} (he : es[i]? = some e) (hf : fs[j]? = some f) : CrsTo ps es fs i (j + 1) ↔ CrsTo ps es fs i j ∨ ∃ r, Crs ps e f r := by
  constructor
  · rintro ⟨i', j', e', f', r, h, h1, h2, h3⟩
    by_cases q : i' = i ∧ j' = j
    · obtain ⟨rfl, rfl⟩ := q
      rw [he] at h1; rw [hf] at h2; cases h1; cases h2
      exact .inr ⟨r, h3⟩
    · exact .inl ⟨i', j', e', f', r, by omega, h1, h2, h3⟩
  · rintro (⟨i', j', e', f', r, h, h1, h2, h3⟩ | ⟨r, h⟩)
    · exact ⟨i', j', e', f', r, by omega, h1, h2, h3⟩
    · exact ⟨i, j, e, f, r, by omega, he, hf, h⟩
def BestSt (best : V) (P : Prop) : Prop := (best = .non ∧ ¬ P) ∨ ∃ r : Nat, best = nV r ∧ P
theorem BestSt.iff {best : V} {P Q : Prop} (h : BestSt best P) (e : P ↔ Q) : BestSt best Q := h.imp (fun ⟨a, b⟩ => ⟨a, fun q => b (e.mpr q)⟩) fun ⟨r, a, b⟩ => ⟨r, a, e.mp b⟩
/-- whether a rank is below a bound, as the program asks -/
theorem oV_lt {k : Option Nat} {r : Nat} : oV k = .non ∧ ltO r k ∨ (∃ n, oV k = nV n ∧ (ltO r k ↔ r < n)) := by
  cases k with
  | none => exact .inl ⟨rfl, trivial⟩
  | some n => exact .inr ⟨n, rfl, Iff.rfl⟩
theorem oV_le {k : Option Nat} {r : Nat} : oV k = .non ∧ leO r k ∨ (∃ n, oV k = nV n ∧ (leO r k ↔ r ≤ n)) := by
  cases k with
  | none => exact .inl ⟨rfl, trivial⟩
  | some n => exact .inr ⟨n, rfl, Iff.rfl⟩
theorem cond_test {σ : L2.St} {H : Hp} {Q : Bool → Hp → Prop} {xb yb : Option Nat} {r : Nat} (h7 : σ[7]? = some (some (oV xb))) (h9 : σ[9]? = some (some (oV yb))) (h10 : σ[10]? = some (some (nV r)))
    (yes : ltO r xb ∧ leO r yb → Q true H) (no : ¬ (ltO r xb ∧ leO r yb) → Q false H) :
    tAnd (tOr (tB (tIsN (tVar 7))) (tTest (tOp (rI0 fun i j => V.bl (decide (i < j))) (tVar 10) (tVar 7)))) (tOr (tB (tIsN (tVar 9))) (tTest (tOp (rI0 fun i j => V.bl (decide (i ≤ j))) (tVar 10) (tVar 9)))) σ H Q := by
  have next : ltO r xb → tOr (tB (tIsN (tVar 9))) (tTest (tOp (rI0 fun i j => V.bl (decide (i ≤ j))) (tVar 10) (tVar 9))) σ H Q := fun hl => by
    cases yb with
    | none => exact ⟨_, h9, _, rfl, iteT (yes ⟨hl, trivial⟩)⟩
    | some n =>
      refine ⟨_, h9, _, rfl, iteF ⟨_, h10, _, h9, _, _, rfl, rfl, _, rfl, ?_⟩⟩
      by_cases c : r ≤ n
      · rw [show decide ((r : Int) ≤ (n : Int)) = true from decide_eq_true (by omega)]; exact yes ⟨hl, c⟩
      · rw [show decide ((r : Int) ≤ (n : Int)) = false from decide_eq_false (by omega)]; exact no fun z => c z.2
  cases xb with
  | none => exact ⟨_, h7, _, rfl, iteT (iteT (next trivial))⟩
  | some n =>
    refine ⟨_, h7, _, rfl, iteF ⟨_, h10, _, h7, _, _, rfl, rfl, _, rfl, ?_⟩⟩
    by_cases c : r < n
    · rw [show decide ((r : Int) < (n : Int)) = true from decide_eq_true (by omega)]; exact iteT (next c)
    · rw [show decide ((r : Int) < (n : Int)) = false from decide_eq_false (by omega)]; exact iteF (no fun z => c z.1)
section
variable {P : Program} {w : World} {K : PySem.W.Frag} {mg : Str → Option Value} {base : Heap}
theorem ok_cross {C f : Addr} {fd : FuncData} (F : Fun K "crossing" "crossing" sCross f fd) (T : Gb K mg) (TJ : TJ K C) (Dright_spine : Df P w K mg base "right_spine" ["joins", "piece"] 5 (spRSp C)) (Dleft_spine : Df P w K mg base "left_spine" ["joins", "piece"] 5 (spLSp C)) :
    FnOk P w K mg base CX0 6 f fd ["joins", "left", "right"] (spCross C) := by
  refine F.ok scCross (fun vs H Q E h => ?_) (fun cdv A outer s H vs Q E hr h => ?_)
  · obtain ⟨_, _, _, _, _, rfl, _⟩ := h
    rfl
  · obtain ⟨a, al, ps, p, q, rfl, J, hp, hq, k⟩ := h
    obtain ⟨lt, dr, dn, JFF⟩ := J.at_
    obtain ⟨dx, tp, lg, as, kr, kn, h1, h2, h3, h4, h5, h6, _⟩ := JFF.ex
    have hu := hu_of hr
    have wf := J.jp.proper.1
    refine ⟨_, (pss_cons (ps_set (i := 3) scCross.nd rfl (Or.inl rfl) pe_non)
      (pss_cons (ps_set (i := 4) scCross.nd rfl (Or.inl rfl) (pe_df Dright_spine (hr.mono (by decide)) (pa_cons (pv 0) (pa_cons (pv 1) pa_nil))))
      (pss_cons (ps_set (i := 5) scCross.nd rfl (Or.inl rfl) (pe_df Dleft_spine (hr.mono (by decide)) (pa_cons (pv 0) (pa_cons (pv 2) pa_nil))))
      (pss_cons (ps_for PassesOwn.never rfl (pi_tup (pv 4)) (pg_tup rfl (pgs_cons (pg_name (i := 6) scCross.nd rfl (Or.inl rfl)) (pgs_cons (pg_name (i := 7) scCross.nd rfl (Or.inl rfl)) pgs_nil)))
        (pss_one (ps_for PassesOwn.never rfl (pi_tup (pv 5)) (pg_tup rfl (pgs_cons (pg_name (i := 8) scCross.nd rfl (Or.inl rfl)) (pgs_cons (pg_name (i := 9) scCross.nd rfl (Or.inl rfl)) pgs_nil)))
            (pss_cons (ps_set (i := 10) scCross.nd rfl (Or.inl rfl) (pe_dget1 hu (pe_fld (pv 0) rfl) (pe_tup (pa_cons (pv 6) (pa_cons (pv 8) pa_nil))) ⟨rfl, rfl, rfl, rfl⟩))
              (pss_one (ps_if (PW.pt (pw_and (pt_cmp (pc_notN (pv 10))) (pw_and (PW.pt (pw_or (pt_cmp (pc_isN (pv 7))) (pw_or1 (pt_cmpR op_lt (pv 10) (pv 7) (nomark _))))) (pw_and1 (PW.pt (pw_or (pt_cmp (pc_isN (pv 9))) (pw_or1 (pt_cmpR op_le (pv 10) (pv 9) (nomark _)))))))))
                (pss_one (ps_if (PW.pt (pw_or (pt_cmp (pc_isN (pv 3))) (pw_or1 (pt_cmpR op_lt (pv 10) (pv 3) (nomark _)))))
                    (pss_one (ps_set (i := 3) scCross.nd rfl (Or.inl rfl) (pv 10)))
                    pss_nil))
                pss_nil))))))
      (pss_one (ps_ret (pv 3))))))), ?_⟩
    refine ⟨_, rfl, _, rfl, a, al, ps, p, rfl, J, hp, fun H1 qa ta s1 hqa sa => ?_⟩
    refine ⟨_, rfl, _, rfl, a, al, ps, q, rfl, J.same s1, hq, fun H2 qb tb s2 hqb sb0 => ?_⟩
    have s12 := s1.trans s2
    have hqa2 := s2 _ _ hqa
    have sa2 := sa.same s2
    generalize hes : spineO Prod.snd ps al.length p = es at sa sa2
    generalize hfs : spineO Prod.fst ps al.length q = fs at sb0
    refine ⟨_, rfl, qa, rfl, ⟨_, SqT.of hqa2⟩, for_tup (K := K) (a := qa) (xs := ta.map V.ref) (fun i σ H' => ∃ best v6 v7 v8 v9 v10, σ = [some (.ref a), some (nV p), some (nV q), some best, some (.ref qa), some (.ref qb), v6, v7, v8, v9, v10] ∧ Same H2 H' ∧ BestSt best (CrsTo ps es fs i 0)) ⟨_, _, _, _, _, _, rfl, Same.refl H2, .inl ⟨rfl, fun ⟨i', j', _, _, _, h, _⟩ => by omega⟩⟩ (fun i σ H' _ ⟨_, _, _, _, _, _, _, s3, _⟩ => SqT.of (s3 _ _ hqa2)) ?_ ?_⟩
    · rintro i x σ H3 hi ⟨best, v6, v7, v8, v9, v10, rfl, s3, hb⟩
      have hi0 : i < ta.length := by simpa using (List.getElem?_eq_some_iff.mp hi).1
      have hi1 : i < es.length := by rw [← sa2.1]; exact hi0
      obtain ⟨t, ht, hT⟩ := sa2.2 i _ (List.getElem?_eq_getElem hi1)
      have ex : x = .ref t := by rw [List.getElem?_map, ht] at hi; exact (Option.some.inj hi).symm
      subst ex
      generalize he : es[i] = e at hT
      have he' : es[i]? = some e := by rw [List.getElem?_eq_getElem hi1, he]
      obtain ⟨x, xb⟩ := e
      refine ⟨t, _, rfl, SqT.of (s3 _ _ hT), rfl, _, _, rfl, _, _, rfl, rfl, ?_⟩
      refine ⟨_, rfl, qb, rfl, ⟨_, SqT.of (s3 _ _ hqb)⟩, for_tup (K := K) (a := qb) (xs := tb.map V.ref) (fun j σ H' => ∃ best v8 v9 v10, σ = [some (.ref a), some (nV p), some (nV q), some best, some (.ref qa), some (.ref qb), some (nV x), some (oV xb), v8, v9, v10] ∧ Same H2 H' ∧ BestSt best (CrsTo ps es fs i j)) ⟨_, _, _, _, rfl, s3, hb⟩ (fun j σ H' _ ⟨_, _, _, _, _, s4, _⟩ => SqT.of (s4 _ _ hqb)) ?_ ?_⟩
      · rintro j z σ H4 hj ⟨best, v8, v9, v10, rfl, s4, hb⟩
        have hj0 : j < tb.length := by simpa using (List.getElem?_eq_some_iff.mp hj).1
        have hj1 : j < fs.length := by rw [← sb0.1]; exact hj0
        obtain ⟨u, hu', hU⟩ := sb0.2 j _ (List.getElem?_eq_getElem hj1)
        have ez : z = .ref u := by rw [List.getElem?_map, hu'] at hj; exact (Option.some.inj hj).symm
        subst ez
        generalize hf : fs[j] = f at hU
        have hf' : fs[j]? = some f := by rw [List.getElem?_eq_getElem hj1, hf]
        obtain ⟨y, yb⟩ := f
        have nx := crsTo_next (ps := ps) he' hf'
        have s42 := s12.trans s4
        refine ⟨u, _, rfl, SqT.of (s4 _ _ hU), rfl, _, _, rfl, _, _, rfl, rfl, ?_⟩
        refine ⟨_, rfl, a, C, dx, _, _, rfl, s42 _ _ h1, TJ.cl, TJ.n4, lookup_at (i := 3) (jf_nd ..) rfl, dr, rfl, .inr ⟨_, .inl (s42 _ _ h5)⟩, _, rfl, _, rfl, by show 2 ≤ sizeLine; decide, fun t2 ht2 => ?_⟩
        have s5 : Same H2 (upd H4 t2 (.tup [nV x, nV y])) := s4.trans (Same.new ht2)
        have g := DGet.t (k := pk (x, y)) ((Same.new (o := .tup [nV x, nV y]) ht2) _ _ (s42 _ _ h5)) upd_same
        generalize upd H4 t2 (.tup [nV x, nV y]) = H5 at s5 g ⊢
        refine ⟨_, g, ?_⟩
        cases ev : valV kr (pk (x, y)) with
        | none =>
          refine ⟨_, rfl, _, rfl, iteF (iteF ?_)⟩
          refine ⟨best, _, _, _, rfl, s5, hb.iff (nx.trans ⟨fun z => z.resolve_right fun ⟨r, hr, e, _⟩ => ?_, .inl⟩).symm⟩
          have := h6.val r hr
          rw [e, ev] at this; cases this
        | some v =>
          obtain ⟨r, hr, ek, rfl⟩ := h6.inv _ _ ev
          have ep : prf ps r = (x, y) := (pk_inj ek).symm
          have only : ∀ r', Crs ps (x, xb) (y, yb) r' → r' = r := fun r' h => h6.one h.1 hr (h.2.1.trans ep.symm)
          have keep : ¬ (ltO r xb ∧ leO r yb) → BestSt best (CrsTo ps es fs i (j + 1)) := fun hn => hb.iff (nx.trans ⟨fun z => z.resolve_right fun ⟨r', h⟩ => hn (by rw [← only r' h]; exact h.2.2), .inl⟩).symm
          have take : ∀ n : Nat, ltO r xb ∧ leO r yb → BestSt (nV n) (CrsTo ps es fs i (j + 1)) := fun n hc => .inr ⟨n, rfl, nx.mpr (.inr ⟨r, hr, ep, hc.1, hc.2⟩)⟩
          refine ⟨_, rfl, _, rfl, iteT ?_⟩
          refine cond_test (xb := xb) (yb := yb) (r := r) rfl rfl rfl (fun hc => iteT ?_) (fun hc => iteF ⟨best, _, _, _, rfl, s5, keep hc⟩)
          rcases hb with ⟨rfl, hb⟩ | ⟨n, rfl, hb⟩
          · refine ⟨_, rfl, _, rfl, iteT (iteT ?_)⟩
            exact ⟨_, rfl, _, _, _, _, rfl, s5, take r hc⟩
          · refine ⟨_, rfl, _, rfl, iteF ⟨_, rfl, _, rfl, _, _, rfl, rfl, _, rfl, ?_⟩⟩
            refine itB (fun _ => ?_) (fun _ => ?_)
            · exact ⟨_, rfl, _, _, _, _, rfl, s5, take r hc⟩
            · exact ⟨_, _, _, _, rfl, s5, take n hc⟩
      · rintro σ H4 ⟨best, v8, v9, v10, rfl, s4, hb⟩
        rw [List.length_map, sb0.1] at hb
        exact ⟨_, _, _, _, _, _, rfl, s4, hb.iff crsTo_row⟩
    · rintro σ H3 ⟨best, v6, v7, v8, v9, v10, rfl, s3, hb⟩
      rw [List.length_map, sa2.1] at hb
      refine ⟨_, rfl, k H3 _ (s12.trans s3) ?_⟩
      have key : CrsTo ps es fs es.length 0 ↔ ¬ sb al.length ps p q := by
        rw [show sb al.length ps p q ↔ _ from sbs_iff wf hp hq, hes, hfs]
        constructor
        · rintro ⟨i', j', e, f, r, _, h1, h2, h3⟩ hn
          exact hn e (List.mem_of_getElem? h1) f (List.mem_of_getElem? h2) r h3
        · intro hn
          refine Classical.byContradiction fun hc => hn fun e he f hf r hcr => hc ?_
          obtain ⟨i', hi'⟩ := List.getElem?_of_mem he
          obtain ⟨j', hj'⟩ := List.getElem?_of_mem hf
          exact ⟨i', j', e, f, r, .inl (List.getElem?_eq_some_iff.mp hi').1, hi', hj', hcr⟩
      rcases hb with ⟨e, h⟩ | ⟨r, e, h⟩
      · exact .inl ⟨e, Classical.byContradiction fun z => h (key.mpr z)⟩
      · exact .inr ⟨r, e, key.mp h⟩
end
/-! ### side_by_side -/
def spSide (C : Addr) : Sp := fun vs H Q _ => ∃ (a : Addr) (al : List Nat) (ps : List (Nat × Nat)) (p q : Nat), vs = [.ref a, nV p, nV q] ∧ JAt C H a al ps ∧ p < al.length + ps.length ∧ q < al.length + ps.length ∧
  ∀ H' b, Same H H' → (b = true ↔ sb al.length ps p q) → Q (.bl b) H'
theorem scSide : FnScope ["joins", "left", "right"] ["joins", "left", "right"] (defScope sSide) := ⟨rfl, rfl, rfl, by decide +kernel, rfl, by decide +kernel, by decide +kernel⟩
section
variable {P : Program} {w : World} {K : PySem.W.Frag} {mg : Str → Option Value} {base : Heap}
theorem ok_side {C f : Addr} {fd : FuncData} (F : Fun K "side_by_side" "side_by_side" sSide f fd) (Dcrossing : Df P w K mg base "crossing" ["joins", "left", "right"] 6 (spCross C)) : FnOk P w K mg base CX0 7 f fd ["joins", "left", "right"] (spSide C) := by
  refine F.ok scSide (fun vs H Q E h => ?_) (fun cdv A outer s H vs Q E hr h => ?_)
  · obtain ⟨_, _, _, _, _, rfl, _⟩ := h
    rfl
  · obtain ⟨a, al, ps, p, q, rfl, J, hp, hq, k⟩ := h
    refine ⟨_, (pss_one (ps_ret (pe_cmp (pc_isN (pe_df Dcrossing (hr.mono (by decide)) (pa_cons (pv 0) (pa_cons (pv 1) (pa_cons (pv 2) pa_nil)))))))), ?_⟩
    refine ⟨_, rfl, _, rfl, _, rfl, a, al, ps, p, q, rfl, J, hp, hq, fun H1 v s1 hv => ?_⟩
    rcases hv with ⟨rfl, h⟩ | ⟨r, rfl, h⟩
    · exact k H1 true s1 ⟨fun _ => h, fun _ => rfl⟩
    · exact k H1 false s1 ⟨fun z => (Bool.noConfusion z), fun z => absurd z h⟩
end
end Rj

set_option Elab.async false
set_option linter.all false
set_option maxRecDepth 100000
namespace Rj
open PySem L2 PyProof.Rows
theorem cds_mem {al L : List Nat} {c : Nat} (hL : Ls al.length L) (h : c ∈ cds al L) : c ∈ al := by
  obtain ⟨i, hi, rfl⟩ := List.mem_map.mp h
  rw [List.getD_eq_getElem?_getD, List.getElem?_eq_getElem (hL i hi)]
  exact List.getElem_mem _
theorem cutS_tS (l : List Nat) (lo hi : Option Int) : cutS (tS l) lo hi = tS ((l.drop (HT.sIx l.length 0 lo)).take (HT.sIx l.length l.length hi - HT.sIx l.length 0 lo)) := by
  rw [cutS, tS_len]; rfl
theorem cutS_from (al L : List Nat) (k : Nat) : cutS (tx al L) (some (k : Int)) none = tx al (L.drop k) := by
  rw [tx, cutS_tS, HT.sIx_nat, HT.sIx_none, tx]
  congr 1
  have hl : (cds al L).length = L.length := by simp [cds]
  rw [hl]
  by_cases h : k ≤ L.length
  · rw [Nat.min_eq_left h, List.take_of_length_le (by simp [cds])]
    simp [cds]
  · rw [Nat.min_eq_right (by omega), List.drop_eq_nil_of_le (by simp [cds]), List.drop_eq_nil_of_le (by omega), List.take_nil]; rfl
theorem cutS_to (al L : List Nat) (k : Nat) : cutS (tx al L) none (some (k : Int)) = tx al (L.take k) := by
  rw [tx, cutS_tS, HT.sIx_nat, HT.sIx_none, tx]
  congr 1
  have hl : (cds al L).length = L.length := by simp [cds]
  rw [hl, List.drop_zero, Nat.sub_zero]
  by_cases h : k ≤ L.length
  · rw [Nat.min_eq_left h]; simp [cds]
  · rw [Nat.min_eq_right (by omega), List.take_of_length_le (by simp [cds]), List.take_of_length_le (by omega)]
theorem cutS_mid (al L : List Nat) (i k : Nat) : cutS (tx al L) (some (i : Int)) (some (k : Int)) = tx al ((L.drop i).take (k - i)) := by
  rw [tx, cutS_tS, HT.sIx_nat, HT.sIx_nat, tx]
  congr 1
  have hl : (cds al L).length = L.length := by simp [cds]
  rw [hl]
  have e : cds al ((L.drop i).take (k - i)) = ((cds al L).drop i).take (k - i) := by simp [cds]
  rw [e]
  by_cases h : i ≤ L.length
  · rw [Nat.min_eq_left h]
    by_cases h2 : k ≤ L.length
    · rw [Nat.min_eq_left h2]
    · rw [Nat.min_eq_right (by omega), List.take_of_length_le (by simp [cds]), List.take_of_length_le (by simp [cds]; omega)]
  · rw [Nat.min_eq_right (show L.length ≤ i by omega), List.drop_eq_nil_of_le (by simp [cds]), List.drop_eq_nil_of_le (by simp [cds]; omega), List.take_nil, List.take_nil]
/-! ### letters_of -/
def spLetters (C : Addr) : Sp := fun vs H Q _ => ∃ (a : Addr) (al : List Nat) (ps : List (Nat × Nat)) (L : List Nat), vs = [.ref a, .str (tx al L)] ∧ JAt C H a al ps ∧ Ls al.length L ∧ L.length ≤ 1000 ∧ ∀ H' v, Same H H' → Q v H'
theorem scLetters : FnScope ["joins", "text", "row", "at", "sign"] ["joins", "text"] (defScope sLetters) := ⟨rfl, rfl, rfl, by decide +kernel, rfl, by decide +kernel, by decide +kernel⟩
section
variable {P : Program} {w : World} {K : PySem.W.Frag} {mg : Str → Option Value} {base : Heap}
theorem ok_letters {C f : Addr} {fd : FuncData} (F : Fun K "letters_of" "letters_of" sLetters f fd) (T : Gb K mg) (TJ : TJ K C) (Dpiece_of : Mt P w K mg base C "piece_of" ["self", "text"] 1 (spPieceOf C)) :
    FnOk P w K mg base CX0 2 f fd ["joins", "text"] (spLetters C) := by
  refine F.ok scLetters (fun vs H Q E h => ?_) (fun cdv A outer s H vs Q E hr h => ?_)
  · obtain ⟨_, _, _, _, rfl, _⟩ := h
    rfl
  · obtain ⟨a, al, ps, L, rfl, J, hL, hlen, k⟩ := h
    obtain ⟨lt, dr, dn, JFF⟩ := J.at_
    obtain ⟨dx, tp, lg, as, kr, kn, h1, _⟩ := JFF.ex
    refine ⟨_, (pss_cons (ps_set (i := 2) scLetters.nd rfl (Or.inl rfl) (pe_lst pa_nil))
      (pss_cons (ps_for PassesOwn.never rfl (pi_enumS (by rfl) T.enumerate (pa_cons (pv 1) pa_nil)) (pg_tup rfl (pgs_cons (pg_name (i := 3) scLetters.nd rfl (Or.inl rfl)) (pgs_cons (pg_name (i := 4) scLetters.nd rfl (Or.inl rfl)) pgs_nil)))
        (pss_cons (ps_if (pt_cmpR op_notIn_sign (pv 4) (pe_fld (pv 0) rfl) rfl)
            (pss_one ps_never)
            pss_nil)
          (pss_one (ps_expr (pe_bm PySem.F.plainAttrs_list PySem.F.slot_list_append PySem.F.type_list_append mt_append (pv 2) (pa_cons (pe_mt Dpiece_of TJ.cl (hr.mono (by decide)) (pv 0) (pa_cons (pv 4) pa_nil)) pa_nil))))))
      (pss_one (ps_ret (pe_callTy call_tuple_of (by rfl) T.tuple (by decide +kernel) (pa_cons (pv 2) pa_nil)))))), ?_⟩
    refine ⟨Nat.zero_le _, fun l hl => ?_⟩
    refine ⟨_, rfl, _, rfl, for_it walk_enumS (fun i σ H' => ∃ v3 v4 xs, σ = [some (.ref a), some (.str (tx al L)), some (.ref l), v3, v4] ∧ Same H H' ∧ H' l = some (.lst xs) ∧ xs.length ≤ i) ⟨_, _, _, rfl, Same.new hl, upd_same, Nat.le_refl _⟩ (fun _ _ _ _ _ => trivial) ?_ ?_⟩
    · rintro i v σ H1 H2 hi ⟨v3, v4, xs, rfl, s1, l1, n1⟩ ⟨t, c, rfl, ht, hc, rfl⟩
      rw [tx_cps] at hi
      obtain ⟨x, hx, rfl⟩ := tx_get hc
      have hxb : x < al.length := hL x (List.mem_of_getElem? hx)
      have s2 := s1.trans (Same.new (o := .tup [.int (i : Nat), .str ⟨#[al.getD x 0]⟩]) ht)
      have nl : l ≠ t := ne_of_none l1 ht
      have l2 : (upd H1 t (.tup [.int (i : Nat), .str ⟨#[al.getD x 0]⟩])) l = some (.lst xs) := by rw [upd_ne nl]; exact l1
      have t2 : (upd H1 t (.tup [.int (i : Nat), .str ⟨#[al.getD x 0]⟩])) t = some (.tup [.int (i : Nat), .str ⟨#[al.getD x 0]⟩]) := upd_same
      generalize upd H1 t (.tup [.int (i : Nat), .str ⟨#[al.getD x 0]⟩]) = H3 at s2 l2 t2 ⊢
      refine ⟨t, _, rfl, SqT.of t2, rfl, _, _, rfl, _, _, rfl, rfl, ?_⟩
      refine ⟨_, rfl, _, rfl, a, C, dx, _, _, rfl, s2 _ _ h1, TJ.cl, TJ.n1, lookup_at (i := 0) (jf_nd ..) rfl, _, _, rfl, rfl, _, rfl, ?_⟩
      refine itF ?_ ?_
      · have hin : al.getD x 0 ∈ (tS al).cps.toList := by
          show al.getD x 0 ∈ al.toArray.toList
          rw [List.toList_toArray]
          exact cds_mem hL (List.mem_map.mpr ⟨x, List.mem_of_getElem? hx, rfl⟩)
        show (!decide (al.getD x 0 ∈ (tS al).cps.toList)) = false
        rw [decide_eq_true hin]; rfl
      refine ⟨_, rfl, .inl ⟨rfl, _, SqL.of l2⟩, _, rfl, a, dx, _, rfl, s2 _ _ h1, jf_no _ _ _ _ _ _ (by decide +kernel), _, rfl, a, al, ps, _, rfl, J.same s2, ?_, ?_⟩
      · intro p hp hpe
        refine ⟨l, _, _, rfl, rfl, l2, line_big' (by omega), _, _, _, rfl, s2.put hl, upd_same, by simp; omega⟩
      · intro hno
        exact absurd (jtx_letter hxb).symm (hno x (by omega))
    · rintro σ H1 ⟨v3, v4, xs, rfl, s1, l1, n1⟩
      exact ⟨_, rfl, l, _, rfl, .inl ⟨SqL.of l1, fun q hq => k _ _ (s1.trans (Same.new hq))⟩⟩
end
/-! ### next_tail -/
def spNextTail (C : Addr) : Sp := fun vs H Q _ => ∃ (a fa : Addr) (al : List Nat) (ps : List (Nat × Nat)) (L : List Nat), vs = [.ref a, .str (tx al L), .ref fa] ∧ JAt C H a al ps ∧ Ls al.length L ∧ L ≠ [] ∧ L.length ≤ 1000 ∧
  H fa = some (.lst (ivs (tailsP al.length ps (L.take (L.length - 1))))) ∧ ∀ H', Same H H' → Q (nV (tl al.length ps L)) H'
theorem scNextTail : FnScope ["joins", "text", "found", "begin", "piece"] ["joins", "text", "found"] (defScope sNextTail) := ⟨rfl, rfl, rfl, by decide +kernel, rfl, by decide +kernel, by decide +kernel⟩
section
variable {P : Program} {w : World} {K : PySem.W.Frag} {mg : Str → Option Value} {base : Heap}
theorem ok_nextTail {C f : Addr} {fd : FuncData} (F : Fun K "next_tail" "next_tail" sNextTail f fd) (T : Gb K mg) (TJ : TJ K C) (Dpiece_of : Mt P w K mg base C "piece_of" ["self", "text"] 1 (spPieceOf C))
    (Dside_by_side : Df P w K mg base "side_by_side" ["joins", "left", "right"] 7 (spSide C)) : FnOk P w K mg base CX0 8 f fd ["joins", "text", "found"] (spNextTail C) := by
  refine F.ok scNextTail (fun vs H Q E h => ?_) (fun cdv A outer s H vs Q E hr h => ?_)
  · obtain ⟨_, _, _, _, _, rfl, _⟩ := h
    rfl
  · obtain ⟨a, fa, al, ps, L, rfl, J, hL, hne, hlen, hfa, k⟩ := h
    obtain ⟨lt, dr, dn, JFF⟩ := J.at_
    obtain ⟨dx, tp, lg, as, kr, kn, h1, h2, h3, h4, h5, h6, h7, h8, h9, h10, h11⟩ := JFF.ex
    have hpos : 0 < L.length := List.length_pos_iff.mpr hne
    refine ⟨_, (pss_cons (ps_for PassesOwn.never rfl (pi_revR (by rfl) T.reversed (prg_2 (by rfl) T.range (pe_callB (call_max2 rfl) (by rfl) T.max (by decide +kernel) (pa_cons pe_int (pa_cons (pe_op op_sub (pe_callB call_len_str (by rfl) T.len PySem.boot_len (pa_cons (pv 1) pa_nil)) (pe_fld (pv 0) rfl)) pa_nil))) (pe_callB call_len_str (by rfl) T.len PySem.boot_len (pa_cons (pv 1) pa_nil)))) (pg_name (i := 3) scNextTail.nd rfl (Or.inl rfl))
        (pss_cons (ps_set (i := 4) scNextTail.nd rfl (Or.inl rfl) (pe_mt Dpiece_of TJ.cl (hr.mono (by decide)) (pv 0) (pa_cons (pe_slice sl_str (pv 1) (po_some (pv 3)) po_none) pa_nil)))
          (pss_one (ps_if (PW.pt (pw_and (pt_cmp (pc_notN (pv 4))) (pw_and1 (PW.pt (pw_or (pt_cmpR op_eq (pv 3) pe_int (nomark _)) (pw_or1 (pt_val (pe_df Dside_by_side (hr.mono (by decide)) (pa_cons (pv 0) (pa_cons (pe_ix ix_list (pv 2) (pe_op op_sub (pv 3) pe_int) (fun _ _ => rfl)) (pa_cons (pv 4) pa_nil)))))))))))
            (pss_one (ps_ret (pv 4)))
            pss_nil))))
      (pss_one (ps_ret pe_non))), ?_⟩
    refine ⟨_, rfl, _, rfl, line_big (by rw [tx_len]; omega), _, rfl, a, C, dx, _, _, rfl, h1, TJ.cl, TJ.n6, lookup_at (i := 5) (jf_nd ..) rfl, _, _, rfl, rfl, _, _, rfl, _, rfl, _, rfl, line_big (by rw [tx_len]; omega), _, _, rfl, rfl, ?_⟩
    have elo : (if ((tx al L).length : Int) - ((lg : Nat) : Int) > 0 then ((tx al L).length : Int) - ((lg : Nat) : Int) else 0) = ((L.length - lg : Nat) : Int) := by
      rw [tx_len]; split <;> omega
    rw [elo, tx_len]
    refine ⟨by omega, by omega, by omega, by omega, for_it walk_rangeC (fun i σ H' => ∃ v3 v4, σ = [some (.ref a), some (.str (tx al L)), some (.ref fa), v3, v4] ∧ Same H H' ∧
      ∀ g p, L.length - i ≤ g → g < L.length → p < al.length + ps.length → ex al.length ps p = L.drop g → ¬ (g = 0 ∨ sb al.length ps (tl al.length ps (L.take g)) p)) ⟨_, _, rfl, Same.refl H, fun g p h1 h2 => absurd h2 (by omega)⟩ (fun _ _ _ _ _ => trivial) ?_ ?_⟩
    · rintro i v σ H1 H2 hi ⟨v3, v4, rfl, s1, hno⟩ ⟨rfl, ev⟩
      have hi1 : i < L.length - (L.length - lg) := by omega
      have ev' : v = nV (L.length - 1 - i) := by
        rw [ev]
        show V.int _ = V.int _
        congr 1; omega
      subst ev'
      clear ev
      generalize hg : L.length - 1 - i = g
      have hgl : g < L.length := by omega
      have hJ1 := J.same s1
      have more : (∀ p, p < al.length + ps.length → ex al.length ps p = L.drop g → ¬ (g = 0 ∨ sb al.length ps (tl al.length ps (L.take g)) p)) → ∀ g' p, L.length - (i + 1) ≤ g' → g' < L.length → p < al.length + ps.length → ex al.length ps p = L.drop g' → ¬ (g' = 0 ∨ sb al.length ps (tl al.length ps (L.take g')) p) := fun h g' p a1 a2 => by
        by_cases e : g' = g
        · subst e; exact h p
        · exact hno g' p (by omega) a2
      refine ⟨_, rfl, a, dx, _, rfl, s1 _ _ h1, jf_no _ _ _ _ _ _ (by decide +kernel), _, rfl, _, rfl, _, rfl, _, rfl, line_big (by rw [tx_len]; omega), a, al, ps, _, rfl, hJ1, ?_, ?_⟩
      · intro p hp hpe
        have epp : ex al.length ps p = L.drop g := by
          have := cutS_from al L g
          rw [show cutS (tx al L) (some (g : Int)) none = jtx al ps p from hpe] at this
          exact tx_inj J.hal.nodup (ex_lt J.jp hp) (hL.drop g) this
        refine ⟨_, rfl, _, rfl, iteT ?_⟩
        refine ⟨_, rfl, rfl, _, rfl, ?_⟩
        have ret : g = 0 ∨ sb al.length ps (tl al.length ps (L.take g)) p → ∀ H3, Same H H3 → Q (nV p) H3 := fun h H3 s3 => by
          rw [← cand_tail J.jp hL hgl hp epp h]; exact k H3 s3
        by_cases hg0 : g = 0
        · refine itT (decide_eq_true (by rw [hg0]; rfl)) (iteT ?_)
          exact ⟨_, rfl, ret (.inl hg0) _ s1⟩
        · refine itF (decide_eq_false (fun q => hg0 ?_)) ?_
          · have q' : V.int (g : Int) = V.int 0 := q
            injection q' with q'; omega
          have hne2 : L.take g ≠ [] := fun q => by have := congrArg List.length q; rw [List.length_take, List.length_nil] at this; omega
          have gt : (tailsP al.length ps (L.take (L.length - 1)))[g - 1]? = some (tl al.length ps (L.take g)) := by
            rw [tailsP_get (by rw [List.length_take]; omega), List.take_take, show g - 1 + 1 = g by omega, Nat.min_eq_left (by omega)]
          refine ⟨_, rfl, _, rfl, _, rfl, _, _, rfl, rfl, fa, _, _, _, rfl, rfl, SqL.of (s1 _ _ hfa), at_of (j := g - 1) (show ((g : Nat) : Int) - 1 = ((g - 1 : Nat) : Int) by omega) (ivs_get gt), _, rfl, a, al, ps, tl al.length ps (L.take g), p, rfl, hJ1, tl_lt J.jp (hL.take g) hne2, hp, fun H3 b s3 hb => ?_⟩
          refine ⟨_, rfl, ?_⟩
          refine itB (fun c => ?_) (fun c => ?_)
          · exact ⟨_, rfl, ret (.inr (hb.mp c)) _ (s1.trans s3)⟩
          · refine ⟨_, _, rfl, s1.trans s3, more fun p' hp' e' h => ?_⟩
            rcases h with h | h
            · exact hg0 h
            · have : p' = p := ex_inj J.jp hp' hp (e'.trans epp.symm)
              subst this
              rw [hb.mpr h] at c; cases c
      · intro hnp
        refine ⟨_, rfl, _, rfl, iteF (iteF ?_)⟩
        refine ⟨_, _, rfl, s1, more fun p hp e _ => ?_⟩
        refine hnp p hp ?_
        show cutS (tx al L) (some (g : Int)) none = jtx al ps p
        rw [cutS_from, ← e]; rfl
    · rintro σ H1 ⟨v3, v4, rfl, s1, hno⟩
      exfalso
      obtain ⟨g, p, hg, hp, he, hs⟩ := cand_ex J.jp hL hne
      have := h9 p hp
      have e2 := congrArg List.length he
      rw [List.length_drop] at e2
      exact hno g p (by omega) hg hp he hs
end
/-! ### chain -/
def spChain (C : Addr) : Sp := fun vs H Q _ => ∃ (a r : Addr) (al : List Nat) (ps : List (Nat × Nat)) (L : List Nat), vs = [.ref a, .ref r] ∧ JAt C H a al ps ∧ Ls al.length L ∧ L.length ≤ 1000 ∧
  H r = some (.tup (ivs (tailsP al.length ps L))) ∧ ∀ H' q, Same H H' → H' q = some (.tup (ivs (cutP al.length ps L))) → Q (.ref q) H'
theorem scChain : FnScope ["joins", "row_of_tails", "found", "end", "piece"] ["joins", "row_of_tails"] (defScope sChain) := ⟨rfl, rfl, rfl, by decide +kernel, rfl, by decide +kernel, by decide +kernel⟩
section
variable {P : Program} {w : World} {K : PySem.W.Frag} {mg : Str → Option Value} {base : Heap}
theorem ok_chain {C f : Addr} {fd : FuncData} (F : Fun K "chain" "chain" sChain f fd) (T : Gb K mg) (TJ : TJ K C) (Dtext_of : Mt P w K mg base C "text_of" ["self", "piece"] 4 (spTextOf C)) : FnOk P w K mg base CX0 5 f fd ["joins", "row_of_tails"] (spChain C) := by
  refine F.ok scChain (fun vs H Q E h => ?_) (fun cdv A outer s H vs Q E hr h => ?_)
  · obtain ⟨_, _, _, _, _, rfl, _⟩ := h
    rfl
  · obtain ⟨a, r, al, ps, L, rfl, J, hL, hlen, hr0, k⟩ := h
    obtain ⟨lt, dr, dn, JFF⟩ := J.at_
    obtain ⟨dx, tp, lg, as, kr, kn, h1, _⟩ := JFF.ex
    have htl := tailsP_len (b := al.length) (ps := ps) L
    refine ⟨_, (pss_cons (ps_set (i := 2) scChain.nd rfl (Or.inl rfl) (pe_lst pa_nil))
      (pss_cons (ps_set (i := 3) scChain.nd rfl (Or.inl rfl) (pe_callB call_len_seq (by rfl) T.len PySem.boot_len (pa_cons (pv 1) pa_nil)))
      (pss_cons (ps_while PassesOwn.never (pt_cmpR op_gt (pv 3) pe_int (nomark _))
        (pss_cons (ps_set (i := 4) scChain.nd rfl (Or.inl rfl) (pe_ix ix_tup (pv 1) (pe_op op_sub (pv 3) pe_int) (fun _ _ => rfl)))
          (pss_cons (ps_expr (pe_bm PySem.F.plainAttrs_list PySem.F.slot_list_append PySem.F.type_list_append mt_append (pv 2) (pa_cons (pv 4) pa_nil)))
          (pss_one (ps_set (i := 3) scChain.nd rfl (Or.inl rfl) (pe_op op_sub (pv 3) (pe_callB call_len_str (by rfl) T.len PySem.boot_len (pa_cons (pe_mt Dtext_of TJ.cl (hr.mono (by decide)) (pv 0) (pa_cons (pv 4) pa_nil)) pa_nil))))))))
      (pss_one (ps_ret (RT.pe_tupRev rfl (by rfl) T.tuple (by rfl) T.reversed (pv 2))))))), ?_⟩
    refine ⟨Nat.zero_le _, fun l hl => ?_⟩
    have s1 : Same H (upd H l (.lst [])) := Same.new hl
    have l1 : (upd H l (.lst [])) l = some (.lst (ivs [])) := upd_same
    generalize upd H l (.lst []) = H1 at s1 l1 ⊢
    refine ⟨_, rfl, r, _, rfl, .inr (SqT.of (s1 _ _ hr0)), ?_⟩
    rw [ivs_len, htl]
    refine ⟨fun m σ H' => ∃ (e : Nat) (FF : List Nat) (v4 : Option V), σ = [some (.ref a), some (.ref r), some (.ref l), some (nV e), v4] ∧ m = e ∧ e ≤ L.length ∧ Same H H' ∧ H' l = some (.lst (ivs FF)) ∧ FF.length + e ≤ L.length ∧ cutP al.length ps L = cutP al.length ps (L.take e) ++ FF.reverse,
      ⟨L.length, L.length, [], _, rfl, rfl, Nat.le_refl _, s1, l1, by simp, by simp⟩, ?_⟩
    rintro m σ H2 ⟨e, FF, v4, rfl, em, he, s2, l2, n2, hc⟩
    refine ⟨_, rfl, _, _, rfl, rfl, _, rfl, ?_⟩
    refine itB (fun c => ?_) (fun c => ?_)
    · have h0 : 0 < e := by have := of_decide_eq_true c; omega
      have gt : (tailsP al.length ps L)[e - 1]? = some (tl al.length ps (L.take e)) := by
        rw [tailsP_get (by omega), show e - 1 + 1 = e by omega]
      have hne : L.take e ≠ [] := fun q => by have := congrArg List.length q; rw [List.length_take, List.length_nil] at this; omega
      obtain ⟨c1, c2, c3⟩ := chain_step J.jp hL h0 he
      have htlt := tl_lt J.jp (hL.take e) hne
      refine ⟨_, fun _ _ z => z, ?_⟩
      refine ⟨_, rfl, _, rfl, _, _, rfl, rfl, r, _, _, _, rfl, rfl, SqT.of (s2 _ _ hr0), at_of (j := e - 1) (show ((e : Nat) : Int) - 1 = ((e - 1 : Nat) : Int) by omega) (ivs_get gt), ?_⟩
      refine ⟨_, rfl, .inl ⟨rfl, _, SqL.of l2⟩, _, rfl, l, _, _, rfl, rfl, l2, by rw [ivs_len]; exact line_big' (by omega), ?_⟩
      have s3 : Same H (upd H2 l (.lst (ivs FF ++ [nV (tl al.length ps (L.take e))]))) := s2.put hl
      have l3 : (upd H2 l (.lst (ivs FF ++ [nV (tl al.length ps (L.take e))]))) l = some (.lst (ivs (FF ++ [tl al.length ps (L.take e)]))) := by rw [upd_same, ivs_snoc]
      generalize upd H2 l (.lst (ivs FF ++ [nV (tl al.length ps (L.take e))])) = H3 at s3 l3 ⊢
      have tlen : (jtx al ps (tl al.length ps (L.take e))).length = (ex al.length ps (tl al.length ps (L.take e))).length := tx_len _ _
      refine ⟨_, rfl, _, rfl, a, dx, _, rfl, s3 _ _ h1, jf_no _ _ _ _ _ _ (by decide +kernel), _, rfl, a, al, ps, _, rfl, J.same s3, htlt, _, rfl, line_big (by rw [tlen]; omega), _, _, rfl, rfl, ?_⟩
      refine ⟨e - (ex al.length ps (tl al.length ps (L.take e))).length, by omega, e - (ex al.length ps (tl al.length ps (L.take e))).length, FF ++ [tl al.length ps (L.take e)], some (nV (tl al.length ps (L.take e))), ?_, rfl, by omega, s3, l3, by simp; omega, ?_⟩
      · have ee : (e : Int) - ((jtx al ps (tl al.length ps (L.take e))).length : Int) = ((e - (ex al.length ps (tl al.length ps (L.take e))).length : Nat) : Int) := by rw [tlen]; omega
        show [_, _, _, some (V.int ((e : Int) - ((jtx al ps (tl al.length ps (L.take e))).length : Int))), _] = _
        rw [ee]; rfl
      · rw [hc, c3]; simp
    · have h0 : e = 0 := by have := of_decide_eq_false c; omega
      refine ⟨_, rfl, l, _, rfl, SqL.of l2, fun q hq => k _ q (s2.trans (Same.new hq)) ?_⟩
      rw [upd_same, hc, h0, List.take_zero, cutP_nil, List.nil_append]
      simp [ivs]
end
end Rj

set_option Elab.async false
set_option linter.all false
set_option maxRecDepth 100000
namespace Rj
open PySem L2 PyProof.Rows
theorem _root_.L2.Same.via {F H H' : Hp} {S : List Addr} (s : Same F H) (k : Kp S H H') (h : ∀ x ∈ S, F x = none) : Same F H' := fun b o e => k b o (fun q => by rw [h b q] at e; cases e) (s b o e)
/-! ### a page as an object -/
def pf (a : Addr) (t : Str) (le ld lu : Addr) : List (Str × V) := [("joins", .ref a), ("letters", .str t), ("ends", .ref le), ("done", .ref ld), ("undone", .ref lu)]
theorem pf_nd (a : Addr) (t : Str) (le ld lu : Addr) : ((pf a t le ld lu).map (·.1)).Nodup := by
  show (["joins", "letters", "ends", "done", "undone"] : List Str).Nodup
  decide +kernel
theorem pf_no (a : Addr) (t : Str) (le ld lu : Addr) {m : Str} (h : m ∉ (["joins", "letters", "ends", "done", "undone"] : List Str)) : (pf a t le ld lu).lookup m = none := lookup_none' h
theorem pf_put2 (a : Addr) (t u : Str) (le ld lu : Addr) : putF "letters" (.str u) (pf a t le ld lu) = pf a u le ld lu := by
  rw [putF_at (i := 1) (w := .str t) (pf_nd ..) rfl]; rfl
theorem pf_put3 (a : Addr) (t : Str) (le x ld lu : Addr) : putF "ends" (.ref x) (pf a t le ld lu) = pf a t x ld lu := by
  rw [putF_at (i := 2) (w := .ref le) (pf_nd ..) rfl]; rfl
theorem pf_put5 (a : Addr) (t : Str) (le ld lu x : Addr) : putF "undone" (.ref x) (pf a t le ld lu) = pf a t le ld x := by
  rw [putF_at (i := 4) (w := .ref lu) (pf_nd ..) rfl]; rfl
/-- an edit's tuple -/
def eT (al : List Nat) (e : Edit) : HO := .tup [nV e.1, .str (tx al e.2.1), .str (tx al e.2.2)]
def EditsAt (al : List Nat) (H : Hp) (ts : List Addr) (es : List Edit) : Prop := ts.length = es.length ∧ ∀ (i : Nat) e, es[i]? = some e → ∃ t, ts[i]? = some t ∧ H t = some (eT al e)
theorem EditsAt.keep {al : List Nat} {H H' : Hp} {ts : List Addr} {es : List Edit} (h : EditsAt al H ts es) (k : ∀ t xs, H t = some (.tup xs) → H' t = some (.tup xs)) : EditsAt al H' ts es := ⟨h.1, fun i e he => let ⟨t, a, b⟩ := h.2 i e he; ⟨t, a, k _ _ b⟩⟩
theorem EditsAt.snoc {al : List Nat} {H : Hp} {ts : List Addr} {es : List Edit} (h : EditsAt al H ts es) {t : Addr} {e : Edit} (he : H t = some (eT al e)) : EditsAt al H (ts ++ [t]) (es ++ [e]) := by
  refine ⟨by simp [h.1], fun i f hf => ?_⟩
  by_cases hi : i < es.length
  · rw [List.getElem?_append_left hi] at hf
    obtain ⟨u, a, b⟩ := h.2 i f hf
    exact ⟨u, by rw [List.getElem?_append_left (by rw [h.1]; exact hi)]; exact a, b⟩
  · have hl := (List.getElem?_eq_some_iff.mp hf).1
    simp at hl
    have : i = es.length := by omega
    subst this
    simp at hf
    subst hf
    exact ⟨t, by rw [← h.1]; simp, he⟩
theorem EditsAt.last {al : List Nat} {H : Hp} {ts : List Addr} {es : List Edit} {e : Edit} (h : EditsAt al H ts (es ++ [e])) : ∃ ts' t, ts = ts' ++ [t] ∧ EditsAt al H ts' es ∧ H t = some (eT al e) := by
  have hl : ts.length = es.length + 1 := by rw [h.1]; simp
  obtain ⟨t, ht, hT⟩ := h.2 es.length e (by simp)
  have e1 : ts = ts.take es.length ++ [t] := by
    have : ts = ts.take (es.length + 1) := by rw [List.take_of_length_le (by omega)]
    rw [List.take_add_one, ht] at this
    exact this
  refine ⟨ts.take es.length, t, e1, ⟨by rw [List.length_take]; omega, fun i f hf => ?_⟩, hT⟩
  have hi := (List.getElem?_eq_some_iff.mp hf).1
  obtain ⟨u, a, b⟩ := h.2 i f (by rw [List.getElem?_append_left hi]; exact hf)
  exact ⟨u, by rw [List.getElem?_take, if_pos hi]; exact a, b⟩
structure PF (C : Addr) (H : Hp) (p le ld lu a : Addr) (al : List Nat) (ps : List (Nat × Nat)) (L : List Nat) (D U : List Edit) : Prop where
  ex : ∃ (dx : Addr) (td tu : List Addr), H p = some (.ins C dx (pf a (tx al L) le ld lu)) ∧ H le = some (.lst (ivs (tailsP al.length ps L))) ∧ H ld = some (.lst (td.map V.ref)) ∧ EditsAt al H td D.reverse ∧
    H lu = some (.lst (tu.map V.ref)) ∧ EditsAt al H tu U.reverse ∧ le ≠ ld ∧ le ≠ lu ∧ ld ≠ lu
/-- a page at p, over what stands beside it (F) -/
structure PW (C : Addr) (F H : Hp) (p a : Addr) (al : List Nat) (ps : List (Nat × Nat)) (L : List Nat) (D U : List Edit) : Prop where
  same : Same F H
  own : F p = none
  at_ : ∃ le ld lu, F le = none ∧ F ld = none ∧ F lu = none ∧ PF C H p le ld lu a al ps L D U
structure TP (K : PySem.W.Frag) (C : Addr) : Prop where
  cl : Cls K C
  n1 : NoAttr K C "joins"
  n2 : NoAttr K C "letters"
  n3 : NoAttr K C "ends"
  n4 : NoAttr K C "done"
  n5 : NoAttr K C "undone"
theorem repl_eq {L : List Nat} {i m : Nat} {M : List Nat} : repl L i m M = L.take i ++ M ++ L.drop (i + m) := rfl
theorem repl_take {L : List Nat} {i m : Nat} {M : List Nat} (h : i ≤ L.length) : (repl L i m M).take i = L.take i := by
  rw [repl_eq, List.append_assoc, List.take_append_of_le_length (by rw [List.length_take]; omega), List.take_take, Nat.min_self]
theorem cutV_to (xs : List V) (k : Nat) : cutV xs none (some (k : Int)) = xs.take k := by
  rw [cutV, HT.sIx_nat, HT.sIx_none, List.drop_zero, Nat.sub_zero]
  by_cases h : k ≤ xs.length
  · rw [Nat.min_eq_left h]
  · rw [Nat.min_eq_right (by omega), List.take_of_length_le (Nat.le_refl _), List.take_of_length_le (by omega)]

/-! ### replace -/
def spReplace (CJ C : Addr) : Sp := fun vs H Q _ => ∃ (F : Hp) (p a : Addr) (al : List Nat) (ps : List (Nat × Nat)) (L : List Nat) (D U : List Edit) (i m : Nat) (M : List Nat), vs = [.ref p, nV i, nV m, .str (tx al M)] ∧
  PW C F H p a al ps L D U ∧ JAt CJ F a al ps ∧ i + m ≤ L.length ∧ L.length ≤ 500 ∧ M.length ≤ 500 ∧ Ls al.length (repl L i m M) ∧ ∀ H', PW C F H' p a al ps (repl L i m M) D U → Q .non H'
theorem scReplace : FnScope ["self", "at", "many", "text", "letters", "end"] ["self", "at", "many", "text"] (defScope sReplace) := ⟨rfl, rfl, rfl, by decide +kernel, rfl, by decide +kernel, by decide +kernel⟩
section
variable {P : Program} {w : World} {K : PySem.W.Frag} {mg : Str → Option Value} {base : Heap}
theorem ok_replace {CJ C f : Addr} {fd : FuncData} (F : Fun K "replace" "Page.replace" sReplace f fd) (T : Gb K mg) (TP : TP K C) (Dnext_tail : Df P w K mg base "next_tail" ["joins", "text", "found"] 8 (spNextTail CJ)) :
    FnOk P w K mg base CX0 9 f fd ["self", "at", "many", "text"] (spReplace CJ C) := by
  refine F.ok scReplace (fun vs H Q E h => ?_) (fun cdv A outer s H vs Q E hr h => ?_)
  · obtain ⟨_, _, _, _, _, _, _, _, _, _, _, rfl, _⟩ := h
    rfl
  · obtain ⟨G, p, a, al, ps, L, D, U, i, m, M, rfl, W0, J, him, hlen, hlenM, hLs, k⟩ := h
    obtain ⟨le, ld, lu, ge, gd, gu, PF0⟩ := W0.at_
    obtain ⟨dx, td, tu, h1, h2, h3, h4, h5, h6, n1, n2, n3⟩ := PF0.ex
    have sG := W0.same
    have gp := W0.own
    refine ⟨_, (pss_cons (ps_set (i := 4) scReplace.nd rfl (Or.inl rfl) (pe_op op_add_str (pe_op op_add_str (pe_slice sl_str (pe_fld (pv 0) rfl) po_none (po_some (pv 1))) (pv 3)) (pe_slice sl_str (pe_fld (pv 0) rfl) (po_some (pe_op op_add (pv 1) (pv 2))) po_none)))
      (pss_cons (ps_fld (pv 0) (pe_slice sl_list (pe_fld (pv 0) rfl) po_none (po_some (pv 1))) rfl)
      (pss_cons (ps_for PassesOwn.never rfl (pi_range2 (by rfl) T.range (pa_cons (pe_op op_add (pv 1) pe_int) (pa_cons (pe_op op_add (pe_callB call_len_str (by rfl) T.len PySem.boot_len (pa_cons (pv 4) pa_nil)) pe_int) pa_nil))) (pg_name (i := 5) scReplace.nd rfl (Or.inl rfl))
        (pss_one (ps_expr (pe_bm PySem.F.plainAttrs_list PySem.F.slot_list_append PySem.F.type_list_append mt_append (pe_fld (pv 0) rfl) (pa_cons (pe_df Dnext_tail (hr.mono (by decide)) (pa_cons (pe_fld (pv 0) rfl) (pa_cons (pe_slice sl_str (pv 4) po_none (po_some (pv 5))) (pa_cons (pe_fld (pv 0) rfl) pa_nil)))) pa_nil)))))
      (pss_one (ps_fld (pv 0) (pv 4) rfl))))), ?_⟩
    -- letters = ..
    refine ⟨_, rfl, p, C, dx, _, _, rfl, h1, TP.cl, TP.n2, lookup_at (i := 1) (pf_nd ..) rfl, _, rfl, _, rfl, _, rfl, line_big (by rw [tx_len]; omega), _, rfl, _, _, rfl, rfl, ?_, ?_⟩
    · rw [cutS_to, tx_len, tx_len, List.length_take]; exact line_big (by omega)
    rw [cutS_to, tx_app]
    refine ⟨_, rfl, p, C, dx, _, _, rfl, h1, TP.cl, TP.n2, lookup_at (i := 1) (pf_nd ..) rfl, _, rfl, _, rfl, _, _, rfl, rfl, _, rfl, _, rfl, line_big (by rw [tx_len]; omega), _, _, rfl, rfl, ?_, ?_⟩
    · rw [← Int.natCast_add, cutS_from, tx_len, tx_len, List.length_append, List.length_take, List.length_drop]; exact line_big (by omega)
    rw [← Int.natCast_add, cutS_from, tx_app]
    have hR : (repl L i m M).length = i + M.length + (L.length - (i + m)) := by
      rw [repl_eq, List.length_append, List.length_append, List.length_take, List.length_drop]; omega
    rw [show L.take i ++ M ++ L.drop (i + m) = repl L i m M from rfl]
    have htk := repl_take (L := L) (i := i) (m := m) (M := M) (by omega)
    generalize hLL : repl L i m M = LL at hR hLs htk k ⊢
    -- self.ends = self.ends[:at]
    refine ⟨_, rfl, p, C, dx, _, _, rfl, h1, TP.cl, TP.n3, lookup_at (i := 2) (pf_nd ..) rfl, _, rfl, _, rfl, le, _, rfl, SqL.of h2, fun q hq => ?_⟩
    have npq : p ≠ q := ne_of_none h1 hq
    have ndq : ld ≠ q := ne_of_none h3 hq
    have nuq : lu ≠ q := ne_of_none h5 hq
    have gq : G q = none := sG.free hq
    refine ⟨_, rfl, p, C, dx, _, rfl, by rw [upd_ne npq]; exact h1, TP.cl, TP.n3, by show 5 < 1000; decide, ?_⟩
    rw [pf_put3, cutV_to]
    have et : (ivs (tailsP al.length ps L)).take i = ivs (tailsP al.length ps (LL.take i)) := by
      rw [htk, ← tailsP_take]; simp [ivs]
    rw [et]
    generalize hH3 : upd (upd H q _) p _ = H3
    have p3 : H3 p = some (.ins C dx (pf a (tx al L) q ld lu)) := by rw [← hH3]; exact upd_same
    have q3 : H3 q = some (.lst (ivs (tailsP al.length ps (LL.take i)))) := by rw [← hH3, upd_ne npq.symm]; exact upd_same
    have sG3 : Same G H3 := by rw [← hH3]; exact (sG.put gq).put gp
    have npd : p ≠ ld := ne_of h1 h3 (by intro z; cases z)
    have npu : p ≠ lu := ne_of h1 h5 (by intro z; cases z)
    have d3 : H3 ld = some (.lst (td.map V.ref)) := by rw [← hH3, upd_ne npd.symm, upd_ne ndq]; exact h3
    have u3 : H3 lu = some (.lst (tu.map V.ref)) := by rw [← hH3, upd_ne npu.symm, upd_ne nuq]; exact h5
    have tup3 : ∀ t xs, H t = some (.tup xs) → H3 t = some (.tup xs) := fun t xs e => by
      rw [← hH3, upd_ne (ne_of e h1 (by intro z; cases z)), upd_ne (ne_of_none e hq)]; exact e
    have E4 := h4.keep tup3
    have E6 := h6.keep tup3
    have J3 := J.same sG3
    refine ⟨_, rfl, _, _, rfl, rfl, _, rfl, _, rfl, line_big (by rw [tx_len]; omega), _, _, rfl, rfl, _, _, rfl, ⟨by omega, by omega, by omega, by rw [tx_len]; omega⟩,
      for_range (lo := ((i : Nat) : Int) + 1) (n := (((tx al LL).length : Int) + 1 - (((i : Nat) : Int) + 1)).toNat) (fun k σ H' => ∃ v5, σ = [some (.ref p), some (nV i), some (nV m), some (.str (tx al M)), some (.str (tx al LL)), v5] ∧ Kp [q] H3 H' ∧ H' q = some (.lst (ivs (tailsP al.length ps (LL.take (i + k)))))) ⟨_, rfl, Kp.refl _ _, q3⟩ ?_ ?_⟩
    · rintro kk σ H4 hk ⟨v5, rfl, k4, q4⟩
      rw [tx_len] at hk
      have hk1 : i + kk < LL.length := by omega
      have p4 := k4 p _ (by simpa using npq) p3
      have sG4 : Same G H4 := sG3.via k4 (fun x hx => by rw [List.mem_singleton.mp hx]; exact gq)
      have ec : cutS (tx al LL) none (some (((i : Nat) : Int) + 1 + ((kk : Nat) : Int))) = tx al (LL.take (i + kk + 1)) := by
        rw [show ((i : Nat) : Int) + 1 + ((kk : Nat) : Int) = ((i + kk + 1 : Nat) : Int) by omega, cutS_to]
      have elen : (LL.take (i + kk + 1)).length = i + kk + 1 := by rw [List.length_take]; omega
      refine ⟨_, rfl, p, C, dx, _, _, rfl, p4, TP.cl, TP.n3, lookup_at (i := 2) (pf_nd ..) rfl, .inl ⟨rfl, _, SqL.of q4⟩, _, rfl, p, C, dx, _, _, rfl, p4, TP.cl, TP.n1, lookup_at (i := 0) (pf_nd ..) rfl, _, rfl, _, rfl, _, rfl, _, rfl, line_big (by rw [tx_len]; omega),
        _, rfl, p, C, dx, _, _, rfl, p4, TP.cl, TP.n3, lookup_at (i := 2) (pf_nd ..) rfl, a, q, al, ps, LL.take (i + kk + 1), by rw [ec]; rfl, J.same sG4, hLs.take _, fun e => by rw [e] at elen; simp at elen, by rw [elen]; omega, ?_, fun H5 s5 => ?_⟩
      · rw [elen, List.take_take, show i + kk + 1 - 1 = i + kk by omega, Nat.min_eq_left (by omega)]; exact q4
      refine ⟨q, _, _, rfl, rfl, s5 _ _ q4, by rw [ivs_len, tailsP_len, List.length_take]; exact line_big' (by omega), ?_⟩
      refine ⟨_, rfl, fun b o nb e => ?_, ?_⟩
      · have nb' : b ≠ q := by simpa using nb
        rw [upd_ne nb']; exact s5 _ _ (k4 b o nb e)
      · rw [upd_same, ivs_snoc, show i + (kk + 1) = (i + kk) + 1 by omega, tailsP_more hk1]
    · rintro σ H4 ⟨v5, rfl, k4, q4⟩
      have en : i + (((tx al LL).length : Int) + 1 - (((i : Nat) : Int) + 1)).toNat = LL.length := by rw [tx_len]; omega
      rw [en, List.take_length] at q4
      have p4 := k4 p _ (by simpa using npq) p3
      have sG4 : Same G H4 := sG3.via k4 (fun x hx => by rw [List.mem_singleton.mp hx]; exact gq)
      refine ⟨_, rfl, _, rfl, p, C, dx, _, rfl, p4, TP.cl, TP.n2, by show 5 < 1000; decide, ?_⟩
      rw [pf_put2]
      have d4 := k4 ld _ (by simpa using ndq) d3
      have u4 := k4 lu _ (by simpa using nuq) u3
      have tup5 : ∀ t xs, H3 t = some (.tup xs) → (upd H4 p (.ins C dx (pf a (tx al LL) q ld lu))) t = some (.tup xs) := fun t xs e => by
        have e1 : t ≠ q := ne_of e q3 (by intro z; cases z)
        rw [upd_ne (ne_of e p3 (by intro z; cases z))]
        exact k4 t _ (by simpa using e1) e
      refine k _ ⟨sG4.put gp, gp, q, ld, lu, gq, gd, gu, dx, td, tu, upd_same, by rw [upd_ne npq.symm]; exact q4, by rw [upd_ne npd.symm]; exact d4, E4.keep tup5, by rw [upd_ne npu.symm]; exact u4, E6.keep tup5, ndq.symm, nuq.symm, n3⟩
end
end Rj

set_option Elab.async false
set_option linter.all false
set_option maxRecDepth 100000
namespace Rj
open PySem L2 PyProof.Rows
/-! ### edit -/
theorem or_edit {σ : L2.St} {H : Hp} {Q : Bool → Hp → Prop} {m : Nat} {t : Str} (h2 : σ[2]? = some (some (nV m))) (h3 : σ[3]? = some (some (.str t))) (hc : 0 < m ∨ t ≠ "") (yes : Q true H) :
    tOr (tTest (tOp (rI0 fun i j => V.bl (decide (j < i))) (tVar 2) (tC (.int 0)))) (tTest (tOp rNe (tVar 3) (tC (.str "")))) σ H Q := by
  refine ⟨_, h2, _, _, rfl, rfl, _, rfl, ?_⟩
  by_cases c : 0 < m
  · rw [show decide ((0 : Int) < (m : Int)) = true from decide_eq_true (by omega)]; exact iteT yes
  · rw [show decide ((0 : Int) < (m : Int)) = false from decide_eq_false (by omega)]
    refine iteF ⟨_, h3, rfl, _, rfl, ?_⟩
    have hne := hc.resolve_left c
    rw [show (!decide (V.str t = V.str "")) = true by rw [decide_eq_false (fun q => hne (V.str.inj q))]; rfl]
    exact yes
def spEdit (CJ C : Addr) : Sp := fun vs H Q _ => ∃ (F : Hp) (p a : Addr) (al : List Nat) (ps : List (Nat × Nat)) (L : List Nat) (D U : List Edit) (i m : Nat) (M : List Nat), vs = [.ref p, nV i, nV m, .str (tx al M)] ∧
  PW C F H p a al ps L D U ∧ JAt CJ F a al ps ∧ i + m ≤ L.length ∧ L.length ≤ 500 ∧ M.length ≤ 500 ∧ Ls al.length (repl L i m M) ∧ D.length ≤ 1000 ∧ (0 < m ∨ M ≠ []) ∧ ∀ H', PW C F H' p a al ps (repl L i m M) ((i, (L.drop i).take m, M) :: D) [] → Q .non H'
theorem scEdit : FnScope ["self", "at", "many", "text"] ["self", "at", "many", "text"] (defScope sEdit) := ⟨rfl, rfl, rfl, by decide +kernel, rfl, by decide +kernel, by decide +kernel⟩
section
variable {P : Program} {w : World} {K : PySem.W.Frag} {mg : Str → Option Value} {base : Heap}
theorem ok_edit {CJ C f : Addr} {fd : FuncData} (F : Fun K "edit" "Page.edit" sEdit f fd) (T : Gb K mg) (TP : TP K C) (Dreplace : Mt P w K mg base C "replace" ["self", "at", "many", "text"] 9 (spReplace CJ C)) :
    FnOk P w K mg base CX0 10 f fd ["self", "at", "many", "text"] (spEdit CJ C) := by
  refine F.ok scEdit (fun vs H Q E h => ?_) (fun cdv A outer s H vs Q E hr h => ?_)
  · obtain ⟨_, _, _, _, _, _, _, _, _, _, _, rfl, _⟩ := h
    rfl
  · obtain ⟨G, p, a, al, ps, L, D, U, i, m, M, rfl, W0, J, him, hlen, hlenM, hLs, hD, hch, k⟩ := h
    obtain ⟨le, ld, lu, ge, gd, gu, PF0⟩ := W0.at_
    obtain ⟨dx, td, tu, h1, h2, h3, h4, h5, h6, n1, n2, n3⟩ := PF0.ex
    have sG := W0.same
    have gp := W0.own
    refine ⟨_, (pss_one (ps_if (PW.pt (pw_or (pt_cmpR op_gt (pv 2) pe_int (nomark _)) (pw_or1 (pt_cmpR op_ne (pv 3) pe_str (nomark _)))))
        (pss_cons (ps_expr (pe_bm PySem.F.plainAttrs_list PySem.F.slot_list_append PySem.F.type_list_append mt_append (pe_fld (pv 0) rfl) (pa_cons (pe_tup (pa_cons (pv 1) (pa_cons (pe_slice sl_str (pe_fld (pv 0) rfl) (po_some (pv 1)) (po_some (pe_op op_add (pv 1) (pv 2)))) (pa_cons (pv 3) pa_nil)))) pa_nil)))
          (pss_cons (ps_fld (pv 0) (pe_lst pa_nil) rfl)
          (pss_one (ps_expr (pe_mt Dreplace TP.cl (hr.mono (by decide)) (pv 0) (pa_cons (pv 1) (pa_cons (pv 2) (pa_cons (pv 3) pa_nil))))))))
        pss_nil)), ?_⟩
    have hne : 0 < m ∨ tx al M ≠ "" := by
      refine hch.imp (fun z => z) fun hM e => hM ?_
      have h1 := congrArg Str.length e
      rw [tx_len] at h1
      exact List.length_eq_zero_iff.mp (h1.trans (by decide +kernel))
    refine or_edit (m := m) (t := tx al M) rfl rfl hne ?_
    refine iteT ?_
    have npd : p ≠ ld := ne_of h1 h3 (by intro z; cases z)
    have npu : p ≠ lu := ne_of h1 h5 (by intro z; cases z)
    -- self.done.append(..)
    refine ⟨_, rfl, p, C, dx, _, _, rfl, h1, TP.cl, TP.n4, lookup_at (i := 3) (pf_nd ..) rfl, .inl ⟨rfl, _, SqL.of h3⟩, _, rfl, _, rfl, p, C, dx, _, _, rfl, h1, TP.cl, TP.n2, lookup_at (i := 1) (pf_nd ..) rfl, _, rfl, _, rfl, _, rfl, _, rfl, _, _, rfl, rfl, _, rfl, _, rfl, line_big (by rw [tx_len]; omega), _, rfl, by show 3 ≤ sizeLine; decide, fun t2 ht2 => ?_⟩
    rw [← Int.natCast_add, cutS_mid, show i + m - i = m by omega]
    have nu2 : ld ≠ t2 := ne_of_none h3 ht2
    refine ⟨ld, _, _, rfl, rfl, by rw [upd_ne nu2]; exact h3, by rw [List.length_map, h4.1, List.length_reverse]; exact line_big' (by omega), ?_⟩
    generalize hH2 : upd (upd H t2 _) ld _ = H2
    have p2 : H2 p = some (.ins C dx (pf a (tx al L) le ld lu)) := by rw [← hH2, upd_ne npd, upd_ne (ne_of_none h1 ht2)]; exact h1
    have e2 : H2 le = some (.lst (ivs (tailsP al.length ps L))) := by rw [← hH2, upd_ne n1, upd_ne (ne_of_none h2 ht2)]; exact h2
    have d2 : H2 ld = some (.lst ((td ++ [t2]).map V.ref)) := by rw [← hH2, upd_same, List.map_append]; rfl
    have tt2 : H2 t2 = some (eT al (i, (L.drop i).take m, M)) := by rw [← hH2, upd_ne nu2.symm, upd_same]; rfl
    have tup2 : ∀ t xs, H t = some (.tup xs) → H2 t = some (.tup xs) := fun t xs e => by rw [← hH2, upd_ne (ne_of e h3 (by intro z; cases z)), upd_ne (ne_of_none e ht2)]; exact e
    have sG2 : Same G H2 := by rw [← hH2]; exact (sG.trans (Same.new ht2)).put gd
    -- self.undone = []
    refine ⟨Nat.zero_le _, fun x hx => ?_⟩
    have gx : G x = none := sG2.free hx
    have npx : p ≠ x := ne_of_none p2 hx
    have nex : le ≠ x := ne_of_none e2 hx
    have ndx : ld ≠ x := ne_of_none d2 hx
    refine ⟨_, rfl, p, C, dx, _, rfl, by rw [upd_ne npx]; exact p2, TP.cl, TP.n5, by show 5 < 1000; decide, ?_⟩
    rw [pf_put5]
    generalize hH3 : upd (upd H2 x _) p _ = H3
    have p3 : H3 p = some (.ins C dx (pf a (tx al L) le ld x)) := by rw [← hH3]; exact upd_same
    have npe : p ≠ le := ne_of h1 h2 (by intro z; cases z)
    have e3 : H3 le = some (.lst (ivs (tailsP al.length ps L))) := by rw [← hH3, upd_ne npe.symm, upd_ne nex]; exact e2
    have d3 : H3 ld = some (.lst ((td ++ [t2]).map V.ref)) := by rw [← hH3, upd_ne npd.symm, upd_ne ndx]; exact d2
    have x3 : H3 x = some (.lst (([] : List Addr).map V.ref)) := by rw [← hH3, upd_ne npx.symm]; exact upd_same
    have tup3 : ∀ t xs, H2 t = some (.tup xs) → H3 t = some (.tup xs) := fun t xs e => by rw [← hH3, upd_ne (ne_of e p2 (by intro z; cases z)), upd_ne (ne_of_none e hx)]; exact e
    have sG3 : Same G H3 := by rw [← hH3]; exact (sG2.put gx).put gp
    refine ⟨_, rfl, p, dx, _, rfl, p3, pf_no _ _ _ _ _ (by decide +kernel), _, rfl, _, rfl, _, rfl, ?_⟩
    exact ⟨G, p, a, al, ps, L, (i, (L.drop i).take m, M) :: D, [], i, m, M, rfl, ⟨sG3, gp, le, ld, x, ge, gd, gx, dx, td ++ [t2], [], p3, e3, d3, by rw [List.reverse_cons]; exact (h4.keep fun t xs e => tup3 _ _ (tup2 _ _ e)).snoc (tup3 _ _ tt2), x3, ⟨rfl, fun i e he => by simp at he⟩, n1, nex, ndx⟩, J, him, hlen, hlenM, hLs, fun H4 W4 => k H4 W4⟩
end

/-! ### undo -/
def spUndo (CJ C : Addr) : Sp := fun vs H Q _ => ∃ (F : Hp) (p a : Addr) (al : List Nat) (ps : List (Nat × Nat)) (L : List Nat) (D U : List Edit) (e : Edit), vs = [.ref p] ∧
  PW C F H p a al ps L (e :: D) U ∧ JAt CJ F a al ps ∧ e.1 + e.2.2.length ≤ L.length ∧ L.length ≤ 500 ∧ e.2.1.length ≤ 500 ∧ e.2.2.length ≤ 500 ∧ Ls al.length (repl L e.1 e.2.2.length e.2.1) ∧ D.length ≤ 1000 ∧ U.length ≤ 1000 ∧ ∀ H', PW C F H' p a al ps (repl L e.1 e.2.2.length e.2.1) D (e :: U) → Q (.bl true) H'
theorem scUndo : FnScope ["self", "at", "taken", "put"] ["self"] (defScope sUndo) := ⟨rfl, rfl, rfl, by decide +kernel, rfl, by decide +kernel, by decide +kernel⟩
section
variable {P : Program} {w : World} {K : PySem.W.Frag} {mg : Str → Option Value} {base : Heap}
theorem ok_Undo {CJ C f : Addr} {fd : FuncData} (F : Fun K "undo" "Page.undo" sUndo f fd) (T : Gb K mg) (TP : TP K C) (Dreplace : Mt P w K mg base C "replace" ["self", "at", "many", "text"] 9 (spReplace CJ C)) :
    FnOk P w K mg base CX0 10 f fd ["self"] (spUndo CJ C) := by
  refine F.ok scUndo (fun vs H Q E h => ?_) (fun cdv A outer s H vs Q E hr h => ?_)
  · obtain ⟨_, _, _, _, _, _, _, _, _, rfl, _⟩ := h
    rfl
  · obtain ⟨G, p, a, al, ps, L, D, U, e, rfl, W0, J, him, hlen, hl1, hl2, hLs, hD, hU, k⟩ := h
    obtain ⟨le, ld, lu, ge, gd, gu, PF0⟩ := W0.at_
    obtain ⟨dx, td, tu, h1, h2, h3, h4, h5, h6, n1, n2, n3⟩ := PF0.ex
    have sG := W0.same
    have gp := W0.own
    rw [List.reverse_cons] at h4
    obtain ⟨td', t, rfl, E4, hT⟩ := h4.last
    refine ⟨_, (pss_cons (ps_if (pt_cmpR op_eq (pe_callB call_len_seq (by rfl) T.len PySem.boot_len (pa_cons (pe_fld (pv 0) rfl) pa_nil)) pe_int (nomark _))
        (pss_one (ps_ret pe_bl))
        pss_nil)
      (pss_cons (ps_asg (pe_bm0 PySem.F.plainAttrs_list PySem.F.slot_list_pop PySem.F.type_list_pop mt_pop (pe_fld (pv 0) rfl)) (pg_tup rfl (pgs_cons (pg_name (i := 1) scUndo.nd rfl (Or.inl rfl)) (pgs_cons (pg_name (i := 2) scUndo.nd rfl (Or.inl rfl)) (pgs_cons (pg_name (i := 3) scUndo.nd rfl (Or.inl rfl)) pgs_nil)))))
      (pss_cons (ps_expr (pe_bm PySem.F.plainAttrs_list PySem.F.slot_list_append PySem.F.type_list_append mt_append (pe_fld (pv 0) rfl) (pa_cons (pe_tup (pa_cons (pv 1) (pa_cons (pv 2) (pa_cons (pv 3) pa_nil)))) pa_nil)))
      (pss_cons (ps_expr (pe_mt Dreplace TP.cl (hr.mono (by decide)) (pv 0) (pa_cons (pv 1) (pa_cons (pe_callB call_len_str (by rfl) T.len PySem.boot_len (pa_cons (pv 3) pa_nil)) (pa_cons (pv 2) pa_nil)))))
      (pss_one (ps_ret pe_bl)))))), ?_⟩
    refine ⟨_, rfl, p, C, dx, _, _, rfl, h1, TP.cl, TP.n4, lookup_at (i := 3) (pf_nd ..) rfl, ld, _, rfl, .inl (SqL.of h3), rfl, _, rfl, ?_⟩
    refine itF (decide_eq_false (fun q => ?_)) ?_
    · injection q with q'; simp at q'; omega
    refine ⟨_, rfl, p, C, dx, _, _, rfl, h1, TP.cl, TP.n4, lookup_at (i := 3) (pf_nd ..) rfl, .inl ⟨rfl, _, SqL.of h3⟩, ld, _, .ref t, rfl, rfl, h3, by simp, ?_⟩
    rw [show ((td' ++ [t]).map V.ref).dropLast = td'.map V.ref by rw [List.map_append]; exact List.dropLast_concat]
    have npd : p ≠ ld := ne_of h1 h3 (by intro z; cases z)
    have npu : p ≠ lu := ne_of h1 h5 (by intro z; cases z)
    generalize hH1 : upd H ld (.lst (td'.map V.ref)) = H1
    have p1 : H1 p = some (.ins C dx (pf a (tx al L) le ld lu)) := by rw [← hH1, upd_ne npd]; exact h1
    have e1 : H1 le = some (.lst (ivs (tailsP al.length ps L))) := by rw [← hH1, upd_ne n1]; exact h2
    have d1 : H1 ld = some (.lst (td'.map V.ref)) := by rw [← hH1]; exact upd_same
    have u1 : H1 lu = some (.lst (tu.map V.ref)) := by rw [← hH1, upd_ne n3.symm]; exact h5
    have tup1 : ∀ t xs, H t = some (.tup xs) → H1 t = some (.tup xs) := fun t xs e => by rw [← hH1, upd_ne (ne_of e h3 (by intro z; cases z))]; exact e
    have sG1 : Same G H1 := by rw [← hH1]; exact sG.put gd
    have T1 := tup1 _ _ hT
    have E41 := E4.keep tup1
    have E61 := h6.keep tup1
    refine ⟨t, _, rfl, SqT.of T1, rfl, _, _, rfl, _, _, rfl, _, _, rfl, rfl, ?_⟩
    -- the other list grows
    refine ⟨_, rfl, p, C, dx, _, _, rfl, p1, TP.cl, TP.n5, lookup_at (i := 4) (pf_nd ..) rfl, .inl ⟨rfl, _, SqL.of u1⟩, _, rfl, _, rfl, _, rfl, by show 3 ≤ sizeLine; decide, fun t2 ht2 => ?_⟩
    have nu2 : lu ≠ t2 := ne_of_none u1 ht2
    refine ⟨lu, _, _, rfl, rfl, by rw [upd_ne nu2]; exact u1, by rw [List.length_map, h6.1, List.length_reverse]; exact line_big' (by omega), ?_⟩
    generalize hH2 : upd (upd H1 t2 _) lu _ = H2
    have p2 : H2 p = some (.ins C dx (pf a (tx al L) le ld lu)) := by rw [← hH2, upd_ne npu, upd_ne (ne_of_none p1 ht2)]; exact p1
    have e2 : H2 le = some (.lst (ivs (tailsP al.length ps L))) := by rw [← hH2, upd_ne n2, upd_ne (ne_of_none e1 ht2)]; exact e1
    have d2 : H2 ld = some (.lst (td'.map V.ref)) := by rw [← hH2, upd_ne n3, upd_ne (ne_of_none d1 ht2)]; exact d1
    have u2 : H2 lu = some (.lst ((tu ++ [t2]).map V.ref)) := by rw [← hH2, upd_same, List.map_append]; rfl
    have tt2 : H2 t2 = some (eT al e) := by rw [← hH2, upd_ne nu2.symm, upd_same]; rfl
    have tup2 : ∀ t xs, H1 t = some (.tup xs) → H2 t = some (.tup xs) := fun t xs e => by rw [← hH2, upd_ne (ne_of e u1 (by intro z; cases z)), upd_ne (ne_of_none e ht2)]; exact e
    have sG2 : Same G H2 := by rw [← hH2]; exact (sG1.trans (Same.new ht2)).put gu
    refine ⟨_, rfl, p, dx, _, rfl, p2, pf_no _ _ _ _ _ (by decide +kernel), _, rfl, _, rfl, _, rfl, line_big (by rw [tx_len]; omega), _, rfl, ?_⟩
    refine ⟨G, p, a, al, ps, L, D, e :: U, e.1, e.2.2.length, e.2.1, by rw [tx_len]; rfl, ⟨sG2, gp, le, ld, lu, ge, gd, gu, dx, td', tu ++ [t2], p2, e2, d2, E41.keep tup2, u2, by rw [List.reverse_cons]; exact (E61.keep tup2).snoc tt2, n1, n2, n3⟩, J, him, hlen, hl1, hLs, fun H3 W3 => k H3 W3⟩
end

/-! ### redo -/
def spRedo (CJ C : Addr) : Sp := fun vs H Q _ => ∃ (F : Hp) (p a : Addr) (al : List Nat) (ps : List (Nat × Nat)) (L : List Nat) (D U : List Edit) (e : Edit), vs = [.ref p] ∧
  PW C F H p a al ps L D (e :: U) ∧ JAt CJ F a al ps ∧ e.1 + e.2.1.length ≤ L.length ∧ L.length ≤ 500 ∧ e.2.2.length ≤ 500 ∧ e.2.1.length ≤ 500 ∧ Ls al.length (repl L e.1 e.2.1.length e.2.2) ∧ D.length ≤ 1000 ∧ U.length ≤ 1000 ∧ ∀ H', PW C F H' p a al ps (repl L e.1 e.2.1.length e.2.2) (e :: D) U → Q (.bl true) H'
theorem scRedo : FnScope ["self", "at", "taken", "put"] ["self"] (defScope sRedo) := ⟨rfl, rfl, rfl, by decide +kernel, rfl, by decide +kernel, by decide +kernel⟩
section
variable {P : Program} {w : World} {K : PySem.W.Frag} {mg : Str → Option Value} {base : Heap}
theorem ok_Redo {CJ C f : Addr} {fd : FuncData} (F : Fun K "redo" "Page.redo" sRedo f fd) (T : Gb K mg) (TP : TP K C) (Dreplace : Mt P w K mg base C "replace" ["self", "at", "many", "text"] 9 (spReplace CJ C)) :
    FnOk P w K mg base CX0 10 f fd ["self"] (spRedo CJ C) := by
  refine F.ok scRedo (fun vs H Q E h => ?_) (fun cdv A outer s H vs Q E hr h => ?_)
  · obtain ⟨_, _, _, _, _, _, _, _, _, rfl, _⟩ := h
    rfl
  · obtain ⟨G, p, a, al, ps, L, D, U, e, rfl, W0, J, him, hlen, hl1, hl2, hLs, hD, hU, k⟩ := h
    obtain ⟨le, ld, lu, ge, gd, gu, PF0⟩ := W0.at_
    obtain ⟨dx, td, tu, h1, h2, h3, h4, h5, h6, n1, n2, n3⟩ := PF0.ex
    have sG := W0.same
    have gp := W0.own
    rw [List.reverse_cons] at h6
    obtain ⟨td', t, rfl, E4, hT⟩ := h6.last
    refine ⟨_, (pss_cons (ps_if (pt_cmpR op_eq (pe_callB call_len_seq (by rfl) T.len PySem.boot_len (pa_cons (pe_fld (pv 0) rfl) pa_nil)) pe_int (nomark _))
        (pss_one (ps_ret pe_bl))
        pss_nil)
      (pss_cons (ps_asg (pe_bm0 PySem.F.plainAttrs_list PySem.F.slot_list_pop PySem.F.type_list_pop mt_pop (pe_fld (pv 0) rfl)) (pg_tup rfl (pgs_cons (pg_name (i := 1) scRedo.nd rfl (Or.inl rfl)) (pgs_cons (pg_name (i := 2) scRedo.nd rfl (Or.inl rfl)) (pgs_cons (pg_name (i := 3) scRedo.nd rfl (Or.inl rfl)) pgs_nil)))))
      (pss_cons (ps_expr (pe_bm PySem.F.plainAttrs_list PySem.F.slot_list_append PySem.F.type_list_append mt_append (pe_fld (pv 0) rfl) (pa_cons (pe_tup (pa_cons (pv 1) (pa_cons (pv 2) (pa_cons (pv 3) pa_nil)))) pa_nil)))
      (pss_cons (ps_expr (pe_mt Dreplace TP.cl (hr.mono (by decide)) (pv 0) (pa_cons (pv 1) (pa_cons (pe_callB call_len_str (by rfl) T.len PySem.boot_len (pa_cons (pv 2) pa_nil)) (pa_cons (pv 3) pa_nil)))))
      (pss_one (ps_ret pe_bl)))))), ?_⟩
    refine ⟨_, rfl, p, C, dx, _, _, rfl, h1, TP.cl, TP.n5, lookup_at (i := 4) (pf_nd ..) rfl, lu, _, rfl, .inl (SqL.of h5), rfl, _, rfl, ?_⟩
    refine itF (decide_eq_false (fun q => ?_)) ?_
    · injection q with q'; simp at q'; omega
    refine ⟨_, rfl, p, C, dx, _, _, rfl, h1, TP.cl, TP.n5, lookup_at (i := 4) (pf_nd ..) rfl, .inl ⟨rfl, _, SqL.of h5⟩, lu, _, .ref t, rfl, rfl, h5, by simp, ?_⟩
    rw [show ((td' ++ [t]).map V.ref).dropLast = td'.map V.ref by rw [List.map_append]; exact List.dropLast_concat]
    have npd : p ≠ ld := ne_of h1 h3 (by intro z; cases z)
    have npu : p ≠ lu := ne_of h1 h5 (by intro z; cases z)
    generalize hH1 : upd H lu (.lst (td'.map V.ref)) = H1
    have p1 : H1 p = some (.ins C dx (pf a (tx al L) le ld lu)) := by rw [← hH1, upd_ne npu]; exact h1
    have e1 : H1 le = some (.lst (ivs (tailsP al.length ps L))) := by rw [← hH1, upd_ne n2]; exact h2
    have d1 : H1 lu = some (.lst (td'.map V.ref)) := by rw [← hH1]; exact upd_same
    have u1 : H1 ld = some (.lst (td.map V.ref)) := by rw [← hH1, upd_ne n3]; exact h3
    have tup1 : ∀ t xs, H t = some (.tup xs) → H1 t = some (.tup xs) := fun t xs e => by rw [← hH1, upd_ne (ne_of e h5 (by intro z; cases z))]; exact e
    have sG1 : Same G H1 := by rw [← hH1]; exact sG.put gu
    have T1 := tup1 _ _ hT
    have E41 := E4.keep tup1
    have E61 := h4.keep tup1
    refine ⟨t, _, rfl, SqT.of T1, rfl, _, _, rfl, _, _, rfl, _, _, rfl, rfl, ?_⟩
    -- the other list grows
    refine ⟨_, rfl, p, C, dx, _, _, rfl, p1, TP.cl, TP.n4, lookup_at (i := 3) (pf_nd ..) rfl, .inl ⟨rfl, _, SqL.of u1⟩, _, rfl, _, rfl, _, rfl, by show 3 ≤ sizeLine; decide, fun t2 ht2 => ?_⟩
    have nu2 : ld ≠ t2 := ne_of_none u1 ht2
    refine ⟨ld, _, _, rfl, rfl, by rw [upd_ne nu2]; exact u1, by rw [List.length_map, h4.1, List.length_reverse]; exact line_big' (by omega), ?_⟩
    generalize hH2 : upd (upd H1 t2 _) ld _ = H2
    have p2 : H2 p = some (.ins C dx (pf a (tx al L) le ld lu)) := by rw [← hH2, upd_ne npd, upd_ne (ne_of_none p1 ht2)]; exact p1
    have e2 : H2 le = some (.lst (ivs (tailsP al.length ps L))) := by rw [← hH2, upd_ne n1, upd_ne (ne_of_none e1 ht2)]; exact e1
    have d2 : H2 lu = some (.lst (td'.map V.ref)) := by rw [← hH2, upd_ne n3.symm, upd_ne (ne_of_none d1 ht2)]; exact d1
    have u2 : H2 ld = some (.lst ((td ++ [t2]).map V.ref)) := by rw [← hH2, upd_same, List.map_append]; rfl
    have tt2 : H2 t2 = some (eT al e) := by rw [← hH2, upd_ne nu2.symm, upd_same]; rfl
    have tup2 : ∀ t xs, H1 t = some (.tup xs) → H2 t = some (.tup xs) := fun t xs e => by rw [← hH2, upd_ne (ne_of e u1 (by intro z; cases z)), upd_ne (ne_of_none e ht2)]; exact e
    have sG2 : Same G H2 := by rw [← hH2]; exact (sG1.trans (Same.new ht2)).put gd
    refine ⟨_, rfl, p, dx, _, rfl, p2, pf_no _ _ _ _ _ (by decide +kernel), _, rfl, _, rfl, _, rfl, line_big (by rw [tx_len]; omega), _, rfl, ?_⟩
    refine ⟨G, p, a, al, ps, L, e :: D, U, e.1, e.2.1.length, e.2.2, by rw [tx_len]; rfl, ⟨sG2, gp, le, ld, lu, ge, gd, gu, dx, td ++ [t2], td', p2, e2, u2, by rw [List.reverse_cons]; exact (E61.keep tup2).snoc tt2, d2, E41.keep tup2, n1, n2, n3⟩, J, him, hlen, hl1, hLs, fun H3 W3 => k H3 W3⟩
end

end Rj

set_option Elab.async false
set_option linter.all false
set_option maxRecDepth 100000
namespace Rj
open PySem L2 PyProof.Rows
theorem tx_nil (al : List Nat) : tx al [] = ("" : Str) := by
  show tS [] = _
  decide +kernel
theorem PF.same {C : Addr} {H H' : Hp} {p le ld lu a : Addr} {al : List Nat} {ps : List (Nat × Nat)} {L : List Nat} {D U : List Edit} (h : PF C H p le ld lu a al ps L D U) (s : Same H H') : PF C H' p le ld lu a al ps L D U := by
  obtain ⟨dx, td, tu, h1, h2, h3, h4, h5, h6, n⟩ := h.ex
  exact ⟨dx, td, tu, s _ _ h1, s _ _ h2, s _ _ h3, h4.keep fun t xs e => s _ _ e, s _ _ h5, h6.keep fun t xs e => s _ _ e, n⟩
theorem PW.on {C : Addr} {F H H' : Hp} {p a : Addr} {al : List Nat} {ps : List (Nat × Nat)} {L : List Nat} {D U : List Edit} (h : PW C F H p a al ps L D U) (s : Same H H') : PW C F H' p a al ps L D U :=
  ⟨h.same.trans s, h.own, let ⟨le, ld, lu, g1, g2, g3, f⟩ := h.at_; ⟨le, ld, lu, g1, g2, g3, f.same s⟩⟩
/-! ### content, len, cut_row -/
def spContent (C : Addr) : Sp := fun vs H Q _ => ∃ (F : Hp) (p a : Addr) (al : List Nat) (ps : List (Nat × Nat)) (L : List Nat) (D U : List Edit), vs = [.ref p] ∧ PW C F H p a al ps L D U ∧ Q (.str (tx al L)) H
theorem scContent : FnScope ["self"] ["self"] (defScope sContent) := ⟨rfl, rfl, rfl, by decide +kernel, rfl, by decide +kernel, by decide +kernel⟩
section
variable {P : Program} {w : World} {K : PySem.W.Frag} {mg : Str → Option Value} {base : Heap}
theorem ok_content {C f : Addr} {fd : FuncData} (F : Fun K "content" "Page.content" sContent f fd) (TP : TP K C) : FnOk P w K mg base CX0 1 f fd ["self"] (spContent C) := by
  refine F.ok scContent (fun vs H Q E h => ?_) (fun cdv A outer s H vs Q E hr h => ?_)
  · obtain ⟨_, _, _, _, _, _, _, _, rfl, _⟩ := h
    rfl
  · obtain ⟨G, p, a, al, ps, L, D, U, rfl, W0, k⟩ := h
    obtain ⟨le, ld, lu, ge, gd, gu, PF0⟩ := W0.at_
    obtain ⟨dx, td, tu, h1, _⟩ := PF0.ex
    refine ⟨_, (pss_one (ps_ret (pe_fld (pv 0) rfl))), ?_⟩
    exact ⟨_, rfl, p, C, dx, _, _, rfl, h1, TP.cl, TP.n2, lookup_at (i := 1) (pf_nd ..) rfl, k⟩
end
def spPLen (C : Addr) : Sp := fun vs H Q _ => ∃ (F : Hp) (p a : Addr) (al : List Nat) (ps : List (Nat × Nat)) (L : List Nat) (D U : List Edit), vs = [.ref p] ∧ PW C F H p a al ps L D U ∧ L.length ≤ 500 ∧ Q (nV L.length) H
theorem scPLen : FnScope ["self"] ["self"] (defScope sPLen) := ⟨rfl, rfl, rfl, by decide +kernel, rfl, by decide +kernel, by decide +kernel⟩
section
variable {P : Program} {w : World} {K : PySem.W.Frag} {mg : Str → Option Value} {base : Heap}
theorem ok_plen {C f : Addr} {fd : FuncData} (F : Fun K "__len__" "Page.__len__" sPLen f fd) (T : Gb K mg) (TP : TP K C) : FnOk P w K mg base CX0 1 f fd ["self"] (spPLen C) := by
  refine F.ok scPLen (fun vs H Q E h => ?_) (fun cdv A outer s H vs Q E hr h => ?_)
  · obtain ⟨_, _, _, _, _, _, _, _, rfl, _⟩ := h
    rfl
  · obtain ⟨G, p, a, al, ps, L, D, U, rfl, W0, hl, k⟩ := h
    obtain ⟨le, ld, lu, ge, gd, gu, PF0⟩ := W0.at_
    obtain ⟨dx, td, tu, h1, _⟩ := PF0.ex
    refine ⟨_, (pss_one (ps_ret (pe_callB call_len_str (by rfl) T.len PySem.boot_len (pa_cons (pe_fld (pv 0) rfl) pa_nil)))), ?_⟩
    refine ⟨_, rfl, p, C, dx, _, _, rfl, h1, TP.cl, TP.n2, lookup_at (i := 1) (pf_nd ..) rfl, _, rfl, line_big (by rw [tx_len]; omega), ?_⟩
    rw [tx_len]
    exact k
end
def spCutRow (CJ C : Addr) : Sp := fun vs H Q _ => ∃ (F : Hp) (p a : Addr) (al : List Nat) (ps : List (Nat × Nat)) (L : List Nat) (D U : List Edit), vs = [.ref p] ∧ PW C F H p a al ps L D U ∧ JAt CJ F a al ps ∧ Ls al.length L ∧ L.length ≤ 500 ∧
  ∀ H' q, Same H H' → H' q = some (.tup (ivs (cutP al.length ps L))) → Q (.ref q) H'
theorem scCutRow : FnScope ["self"] ["self"] (defScope sCutRow) := ⟨rfl, rfl, rfl, by decide +kernel, rfl, by decide +kernel, by decide +kernel⟩
section
variable {P : Program} {w : World} {K : PySem.W.Frag} {mg : Str → Option Value} {base : Heap}
theorem ok_cutRow {CJ C f : Addr} {fd : FuncData} (F : Fun K "cut_row" "Page.cut_row" sCutRow f fd) (T : Gb K mg) (TP : TP K C) (Dchain : Df P w K mg base "chain" ["joins", "row_of_tails"] 5 (spChain CJ)) : FnOk P w K mg base CX0 6 f fd ["self"] (spCutRow CJ C) := by
  refine F.ok scCutRow (fun vs H Q E h => ?_) (fun cdv A outer s H vs Q E hr h => ?_)
  · obtain ⟨_, _, _, _, _, _, _, _, rfl, _⟩ := h
    rfl
  · obtain ⟨G, p, a, al, ps, L, D, U, rfl, W0, J, hL, hl, k⟩ := h
    obtain ⟨le, ld, lu, ge, gd, gu, PF0⟩ := W0.at_
    obtain ⟨dx, td, tu, h1, h2, _⟩ := PF0.ex
    refine ⟨_, (pss_one (ps_ret (pe_df Dchain (hr.mono (by decide)) (pa_cons (pe_fld (pv 0) rfl) (pa_cons (pe_callTy call_tuple_of (by rfl) T.tuple (by decide +kernel) (pa_cons (pe_fld (pv 0) rfl) pa_nil)) pa_nil))))), ?_⟩
    refine ⟨_, rfl, p, C, dx, _, _, rfl, h1, TP.cl, TP.n1, lookup_at (i := 0) (pf_nd ..) rfl, _, rfl, p, C, dx, _, _, rfl, h1, TP.cl, TP.n3, lookup_at (i := 2) (pf_nd ..) rfl, le, _, rfl, .inl ⟨SqL.of h2, fun q hq => ?_⟩⟩
    have s1 : Same H (upd H q (.tup (ivs (tailsP al.length ps L)))) := Same.new hq
    exact ⟨a, q, al, ps, L, rfl, J.same (W0.same.trans s1), hL, by omega, upd_same, fun H2 r s2 hr2 => k H2 r (s1.trans s2) hr2⟩
end
/-! ### put_in, take_out -/
def spPutIn (CJ C : Addr) : Sp := fun vs H Q _ => ∃ (F : Hp) (p a : Addr) (al : List Nat) (ps : List (Nat × Nat)) (L : List Nat) (D U : List Edit) (i : Nat) (M : List Nat), vs = [.ref p, nV i, .str (tx al M)] ∧
  PW C F H p a al ps L D U ∧ JAt CJ F a al ps ∧ i ≤ L.length ∧ L.length ≤ 500 ∧ M.length ≤ 500 ∧ Ls al.length L ∧ Ls al.length M ∧ D.length ≤ 1000 ∧ M ≠ [] ∧ ∀ H', PW C F H' p a al ps (repl L i 0 M) ((i, [], M) :: D) [] → Q .non H'
theorem Ls.repl {b : Nat} {L M : List Nat} (h : Ls b L) (h' : Ls b M) (i m : Nat) : Ls b (repl L i m M) := Ls.append (Ls.append (h.take i) h') (h.drop (i + m))
theorem scPutIn : FnScope ["self", "at", "text"] ["self", "at", "text"] (defScope sPutIn) := ⟨rfl, rfl, rfl, by decide +kernel, rfl, by decide +kernel, by decide +kernel⟩
section
variable {P : Program} {w : World} {K : PySem.W.Frag} {mg : Str → Option Value} {base : Heap}
theorem ok_putIn {CJ C f : Addr} {fd : FuncData} (F : Fun K "put_in" "Page.put_in" sPutIn f fd) (T : Gb K mg) (TP : TP K C) (Dis_between : Df P w K mg base "is_between" ["value", "least", "most"] 1 spBetween)
    (Dletters_of : Df P w K mg base "letters_of" ["joins", "text"] 2 (spLetters CJ)) (Dedit : Mt P w K mg base C "edit" ["self", "at", "many", "text"] 10 (spEdit CJ C)) : FnOk P w K mg base CX0 11 f fd ["self", "at", "text"] (spPutIn CJ C) := by
  refine F.ok scPutIn (fun vs H Q E h => ?_) (fun cdv A outer s H vs Q E hr h => ?_)
  · obtain ⟨_, _, _, _, _, _, _, _, _, _, rfl, _⟩ := h
    rfl
  · obtain ⟨G, p, a, al, ps, L, D, U, i, M, rfl, W0, J, hi, hl, hlM, hL, hM, hD, hne, k⟩ := h
    obtain ⟨le, ld, lu, ge, gd, gu, PF0⟩ := W0.at_
    obtain ⟨dx, td, tu, h1, _⟩ := PF0.ex
    refine ⟨_, (pss_cons (ps_if (pt_not (pt_val (pe_df Dis_between (hr.mono (by decide)) (pa_cons (pv 1) (pa_cons pe_int (pa_cons (pe_callB call_len_str (by rfl) T.len PySem.boot_len (pa_cons (pe_fld (pv 0) rfl) pa_nil)) pa_nil))))))
        (pss_one ps_never)
        pss_nil)
      (pss_cons (ps_expr (pe_df Dletters_of (hr.mono (by decide)) (pa_cons (pe_fld (pv 0) rfl) (pa_cons (pv 2) pa_nil))))
      (pss_one (ps_expr (pe_mt Dedit TP.cl (hr.mono (by decide)) (pv 0) (pa_cons (pv 1) (pa_cons pe_int (pa_cons (pv 2) pa_nil)))))))), ?_⟩
    refine ⟨_, rfl, _, rfl, p, C, dx, _, _, rfl, h1, TP.cl, TP.n2, lookup_at (i := 1) (pf_nd ..) rfl, _, rfl, line_big (by rw [tx_len]; omega), ?_⟩
    rw [tx_len]
    refine ⟨_, _, _, rfl, _, rfl, ?_⟩
    refine itF (by rw [decide_eq_true (show (0 : Int) ≤ (i : Nat) ∧ ((i : Nat) : Int) ≤ ((L.length : Nat) : Int) by omega)]; rfl) ?_
    refine ⟨_, rfl, p, C, dx, _, _, rfl, h1, TP.cl, TP.n1, lookup_at (i := 0) (pf_nd ..) rfl, _, rfl, a, al, ps, M, rfl, J.same W0.same, hM, by omega, fun H1 v s1 => ?_⟩
    refine ⟨_, rfl, p, dx, _, rfl, s1 _ _ h1, pf_no _ _ _ _ _ (by decide +kernel), _, rfl, _, rfl, ?_⟩
    exact ⟨G, p, a, al, ps, L, D, U, i, 0, M, rfl, W0.on s1, J, by omega, hl, hlM, hL.repl hM i 0, hD, .inr hne, fun H2 W2 => k H2 W2⟩
end
def spTakeOut (CJ C : Addr) : Sp := fun vs H Q _ => ∃ (F : Hp) (p a : Addr) (al : List Nat) (ps : List (Nat × Nat)) (L : List Nat) (D U : List Edit) (i m : Nat), vs = [.ref p, nV i, nV m] ∧
  PW C F H p a al ps L D U ∧ JAt CJ F a al ps ∧ i + m ≤ L.length ∧ L.length ≤ 500 ∧ Ls al.length L ∧ D.length ≤ 1000 ∧ 0 < m ∧ ∀ H', PW C F H' p a al ps (repl L i m []) ((i, (L.drop i).take m, []) :: D) [] → Q .non H'
theorem scTakeOut : FnScope ["self", "at", "many"] ["self", "at", "many"] (defScope sTakeOut) := ⟨rfl, rfl, rfl, by decide +kernel, rfl, by decide +kernel, by decide +kernel⟩
section
variable {P : Program} {w : World} {K : PySem.W.Frag} {mg : Str → Option Value} {base : Heap}
theorem ok_takeOut {CJ C f : Addr} {fd : FuncData} (F : Fun K "take_out" "Page.take_out" sTakeOut f fd) (T : Gb K mg) (TP : TP K C) (Dis_between : Df P w K mg base "is_between" ["value", "least", "most"] 1 spBetween)
    (Dedit : Mt P w K mg base C "edit" ["self", "at", "many", "text"] 10 (spEdit CJ C)) : FnOk P w K mg base CX0 11 f fd ["self", "at", "many"] (spTakeOut CJ C) := by
  refine F.ok scTakeOut (fun vs H Q E h => ?_) (fun cdv A outer s H vs Q E hr h => ?_)
  · obtain ⟨_, _, _, _, _, _, _, _, _, _, rfl, _⟩ := h
    rfl
  · obtain ⟨G, p, a, al, ps, L, D, U, i, m, rfl, W0, J, hi, hl, hL, hD, hm, k⟩ := h
    obtain ⟨le, ld, lu, ge, gd, gu, PF0⟩ := W0.at_
    obtain ⟨dx, td, tu, h1, _⟩ := PF0.ex
    refine ⟨_, (pss_cons (ps_if (pt_not (pt_val (pe_df Dis_between (hr.mono (by decide)) (pa_cons (pv 1) (pa_cons pe_int (pa_cons (pe_callB call_len_str (by rfl) T.len PySem.boot_len (pa_cons (pe_fld (pv 0) rfl) pa_nil)) pa_nil))))))
        (pss_one ps_never)
        pss_nil)
      (pss_cons (ps_if (pt_not (pt_val (pe_df Dis_between (hr.mono (by decide)) (pa_cons (pv 2) (pa_cons pe_int (pa_cons (pe_op op_sub (pe_callB call_len_str (by rfl) T.len PySem.boot_len (pa_cons (pe_fld (pv 0) rfl) pa_nil)) (pv 1)) pa_nil))))))
        (pss_one ps_never)
        pss_nil)
      (pss_one (ps_expr (pe_mt Dedit TP.cl (hr.mono (by decide)) (pv 0) (pa_cons (pv 1) (pa_cons (pv 2) (pa_cons pe_str pa_nil)))))))), ?_⟩
    refine ⟨_, rfl, _, rfl, p, C, dx, _, _, rfl, h1, TP.cl, TP.n2, lookup_at (i := 1) (pf_nd ..) rfl, _, rfl, line_big (by rw [tx_len]; omega), ?_⟩
    rw [tx_len]
    refine ⟨_, _, _, rfl, _, rfl, ?_⟩
    refine itF (by rw [decide_eq_true (show (0 : Int) ≤ (i : Nat) ∧ ((i : Nat) : Int) ≤ ((L.length : Nat) : Int) by omega)]; rfl) ?_
    refine ⟨_, rfl, _, rfl, p, C, dx, _, _, rfl, h1, TP.cl, TP.n2, lookup_at (i := 1) (pf_nd ..) rfl, _, rfl, line_big (by rw [tx_len]; omega), _, rfl, _, _, rfl, rfl, ?_⟩
    rw [tx_len]
    refine ⟨_, _, _, rfl, _, rfl, ?_⟩
    refine itF (by rw [decide_eq_true (show (0 : Int) ≤ (m : Nat) ∧ ((m : Nat) : Int) ≤ ((L.length : Nat) : Int) - ((i : Nat) : Int) by omega)]; rfl) ?_
    refine ⟨_, rfl, p, dx, _, rfl, h1, pf_no _ _ _ _ _ (by decide +kernel), _, rfl, _, rfl, ?_⟩
    exact ⟨G, p, a, al, ps, L, D, U, i, m, [], by rw [tx_nil]; rfl, W0, J, hi, hl, by simp, hL.repl Ls.nil i m, hD, .inl hm, fun H2 W2 => k H2 W2⟩
end
/-! ### __init__ -/
def spPInit (CJ C : Addr) : Sp := fun vs H Q _ => ∃ (F : Hp) (p dx a : Addr) (al : List Nat) (ps : List (Nat × Nat)) (L : List Nat), vs = [.ref p, .ref a, .str (tx al L)] ∧ Same F H ∧ F p = none ∧ H p = some (.ins C dx []) ∧
  JAt CJ F a al ps ∧ Ls al.length L ∧ L.length ≤ 500 ∧ ∀ H', PW C F H' p a al ps L [] [] → Q .non H'
theorem scPInit : FnScope ["self", "joins", "text"] ["self", "joins", "text"] (defScope sPInit) := ⟨rfl, rfl, rfl, by decide +kernel, rfl, by decide +kernel, by decide +kernel⟩
section
variable {P : Program} {w : World} {K : PySem.W.Frag} {mg : Str → Option Value} {base : Heap}
theorem ok_pinit {CJ C f : Addr} {fd : FuncData} (F : Fun K "__init__" "Page.__init__" sPInit f fd) (T : Gb K mg) (TP : TP K C) (Dletters_of : Df P w K mg base "letters_of" ["joins", "text"] 2 (spLetters CJ))
    (Dreplace : Mt P w K mg base C "replace" ["self", "at", "many", "text"] 9 (spReplace CJ C)) : FnOk P w K mg base CX0 10 f fd ["self", "joins", "text"] (spPInit CJ C) := by
  refine F.ok scPInit (fun vs H Q E h => ?_) (fun cdv A outer s H vs Q E hr h => ?_)
  · obtain ⟨_, _, _, _, _, _, _, rfl, _⟩ := h
    rfl
  · obtain ⟨G, p, dx, a, al, ps, L, rfl, sG0, gp, hp0, J, hL, hl, k⟩ := h
    refine ⟨_, (pss_cons (ps_expr (pe_df Dletters_of (hr.mono (by decide)) (pa_cons (pv 1) (pa_cons (pv 2) pa_nil))))
      (pss_cons (ps_fld (pv 0) (pv 1) rfl)
      (pss_cons (ps_fld (pv 0) pe_str rfl)
      (pss_cons (ps_fld (pv 0) (pe_lst pa_nil) rfl)
      (pss_cons (ps_fld (pv 0) (pe_lst pa_nil) rfl)
      (pss_cons (ps_fld (pv 0) (pe_lst pa_nil) rfl)
      (pss_one (ps_expr (pe_mt Dreplace TP.cl (hr.mono (by decide)) (pv 0) (pa_cons pe_int (pa_cons pe_int (pa_cons (pv 2) pa_nil)))))))))))), ?_⟩
    refine ⟨_, rfl, _, rfl, a, al, ps, L, rfl, J.same sG0, hL, by omega, fun H0 v s0 => ?_⟩
    have sG := sG0.trans s0
    have hp := s0 _ _ hp0
    refine ⟨_, rfl, _, rfl, p, C, dx, _, rfl, hp, TP.cl, TP.n1, by show 0 < 1000; decide, ?_⟩
    rw [putF_new (fs := []) (by simp)]
    refine ⟨_, rfl, p, C, dx, _, rfl, upd_same, TP.cl, TP.n2, by show 1 < 1000; decide, ?_⟩
    rw [putF_new (fs := ([] : List (Str × V)) ++ ([("joins", V.ref a)] : List (Str × V))) (by show ("letters" : Str) ∉ (["joins"] : List Str); decide +kernel), upd_upd]
    generalize hH1 : upd H0 p _ = H1
    have p1 : H1 p = some (.ins C dx [("joins", V.ref a), ("letters", V.str "")]) := by rw [← hH1]; exact upd_same
    have sG1 : Same G H1 := by rw [← hH1]; exact sG.put gp
    refine ⟨Nat.zero_le _, fun le hle => ?_⟩
    have n1 : p ≠ le := ne_of_none p1 hle
    have ge : G le = none := sG1.free hle
    refine ⟨_, rfl, p, C, dx, _, rfl, by rw [upd_ne n1]; exact p1, TP.cl, TP.n3, by show 2 < 1000; decide, ?_⟩
    rw [putF_new (fs := [("joins", V.ref a), ("letters", V.str "")]) (by show ("ends" : Str) ∉ (["joins", "letters"] : List Str); decide +kernel)]
    generalize hH2 : upd (upd H1 le _) p _ = H2
    have p2 : H2 p = some (.ins C dx [("joins", V.ref a), ("letters", V.str ""), ("ends", V.ref le)]) := by rw [← hH2]; exact upd_same
    have e2 : H2 le = some (.lst []) := by rw [← hH2, upd_ne n1.symm]; exact upd_same
    have sG2 : Same G H2 := by rw [← hH2]; exact (sG1.put ge).put gp
    refine ⟨Nat.zero_le _, fun ld hld => ?_⟩
    have n2 : p ≠ ld := ne_of_none p2 hld
    have n3 : le ≠ ld := ne_of_none e2 hld
    have gd : G ld = none := sG2.free hld
    refine ⟨_, rfl, p, C, dx, _, rfl, by rw [upd_ne n2]; exact p2, TP.cl, TP.n4, by show 3 < 1000; decide, ?_⟩
    rw [putF_new (fs := [("joins", V.ref a), ("letters", V.str ""), ("ends", V.ref le)]) (by show ("done" : Str) ∉ (["joins", "letters", "ends"] : List Str); decide +kernel)]
    generalize hH3 : upd (upd H2 ld _) p _ = H3
    have p3 : H3 p = some (.ins C dx [("joins", V.ref a), ("letters", V.str ""), ("ends", V.ref le), ("done", V.ref ld)]) := by rw [← hH3]; exact upd_same
    have e3 : H3 le = some (.lst []) := by rw [← hH3, upd_ne n1.symm, upd_ne n3]; exact e2
    have d3 : H3 ld = some (.lst []) := by rw [← hH3, upd_ne n2.symm]; exact upd_same
    have sG3 : Same G H3 := by rw [← hH3]; exact (sG2.put gd).put gp
    refine ⟨Nat.zero_le _, fun lu hlu => ?_⟩
    have n4 : p ≠ lu := ne_of_none p3 hlu
    have n5 : le ≠ lu := ne_of_none e3 hlu
    have n6 : ld ≠ lu := ne_of_none d3 hlu
    have gu : G lu = none := sG3.free hlu
    refine ⟨_, rfl, p, C, dx, _, rfl, by rw [upd_ne n4]; exact p3, TP.cl, TP.n5, by show 4 < 1000; decide, ?_⟩
    rw [putF_new (fs := [("joins", V.ref a), ("letters", V.str ""), ("ends", V.ref le), ("done", V.ref ld)]) (by show ("undone" : Str) ∉ (["joins", "letters", "ends", "done"] : List Str); decide +kernel)]
    generalize hH4 : upd (upd H3 lu _) p _ = H4
    have p4 : H4 p = some (.ins C dx (pf a (tx al []) le ld lu)) := by rw [← hH4, tx_nil]; exact upd_same
    have e4 : H4 le = some (.lst (ivs (tailsP al.length ps []))) := by rw [← hH4, upd_ne n1.symm, upd_ne n5]; exact e3
    have d4 : H4 ld = some (.lst (([] : List Addr).map V.ref)) := by rw [← hH4, upd_ne n2.symm, upd_ne n6]; exact d3
    have u4 : H4 lu = some (.lst (([] : List Addr).map V.ref)) := by rw [← hH4, upd_ne n4.symm]; exact upd_same
    have sG4 : Same G H4 := by rw [← hH4]; exact (sG3.put gu).put gp
    refine ⟨_, rfl, p, dx, _, rfl, p4, pf_no _ _ _ _ _ (by decide +kernel), _, rfl, ?_⟩
    have er : repl [] 0 0 L = L := by simp [repl]
    refine ⟨G, p, a, al, ps, [], [], [], 0, 0, L, rfl, ⟨sG4, gp, le, ld, lu, ge, gd, gu, dx, [], [], p4, e4, d4, ⟨rfl, fun i e he => by simp at he⟩, u4, ⟨rfl, fun i e he => by simp at he⟩, n3, n5, n6⟩, J, by simp, by simp, hl, by rw [er]; exact hL, fun H5 W5 => ?_⟩
    rw [er] at W5
    exact k H5 W5
end
end Rj

set_option Elab.async false
set_option linter.all false
set_option maxRecDepth 100000
namespace Rj
open PySem L2 PyProof.Rows
/-- ints in a list -/
def zvs (ns : List Int) : List V := ns.map V.int
theorem zvs_snoc (ns : List Int) (z : Int) : zvs ns ++ [V.int z] = zvs (ns ++ [z]) := by simp [zvs]
theorem zvs_len (ns : List Int) : (zvs ns).length = ns.length := by simp [zvs]
/-! ### a draw -/
def spDraw : Sp := fun vs H Q _ => ∃ (a : Addr) (ns : List Int) (m : Nat), vs = [.ref a, nV m] ∧ H a = some (.lst (zvs ns)) ∧ 0 < m ∧ ns.length ≤ 100000 ∧ ∀ (ns' : List Int) (r : Nat), ns'.length ≤ ns.length → r < m → Q (nV r) (upd H a (.lst (zvs ns')))
theorem scDraw : FnScope ["_law_pool_here", "_law_many"] ["_law_pool_here", "_law_many"] (defScope sDraw) := ⟨rfl, rfl, rfl, by decide +kernel, rfl, by decide +kernel, by decide +kernel⟩
section
variable {P : Program} {w : World} {K : PySem.W.Frag} {mg : Str → Option Value} {base : Heap}
theorem ok_draw {f : Addr} {fd : FuncData} (F : Fun K "_law_draw" "_law_draw" sDraw f fd) (T : Gb K mg) : FnOk P w K mg base CX0 1 f fd ["_law_pool_here", "_law_many"] spDraw := by
  refine F.ok scDraw (fun vs H Q E h => ?_) (fun cdv A outer s H vs Q E hr h => ?_)
  · obtain ⟨_, _, _, rfl, _⟩ := h
    rfl
  · obtain ⟨a, ns, m, rfl, ha, hm, hlen, k⟩ := h
    refine ⟨_, (pss_cons (ps_if (pt_cmpR op_eq (pe_callB call_len_seq (by rfl) T.len PySem.boot_len (pa_cons (pv 0) pa_nil)) pe_int (nomark _))
        (pss_one (ps_ret pe_int))
        pss_nil)
      (pss_one (ps_ret (pe_op op_mod (pe_callTy call_int1 (by rfl) T.int (by decide +kernel) (pa_cons (pe_bm0 PySem.F.plainAttrs_list PySem.F.slot_list_pop PySem.F.type_list_pop mt_pop (pv 0)) pa_nil)) (pv 1))))), ?_⟩
    refine ⟨_, rfl, a, _, rfl, .inl (SqL.of ha), rfl, _, rfl, ?_⟩
    rw [zvs_len]
    refine itB (fun c => ?_) (fun c => ?_)
    · have h0 := of_decide_eq_true c
      injection h0 with h0
      have := k ns 0 (Nat.le_refl _) hm
      rw [upd_self ha] at this
      exact this
    · have hne : ns ≠ [] := fun e => by
        have h0 := of_decide_eq_false c
        rw [e] at h0; exact h0 rfl
      obtain ⟨ns', z, rfl⟩ : ∃ ns' z, ns = ns' ++ [z] := ⟨_, _, (List.dropLast_concat_getLast hne).symm⟩
      refine ⟨_, rfl, .inl ⟨rfl, _, SqL.of ha⟩, a, _, V.int z, rfl, rfl, ha, by simp [zvs], .inl ⟨_, rfl, _, rfl, _, _, rfl, rfl, by show (0 : Int) < (m : Int); omega, ?_⟩⟩
      have e1 : (zvs (ns' ++ [z])).dropLast = zvs ns' := by rw [← zvs_snoc]; exact List.dropLast_concat
      rw [e1]
      have e2 : z % (m : Int) = ((z % (m : Int)).toNat : Int) := (Int.toNat_of_nonneg (Int.emod_nonneg _ (by omega))).symm
      have e3 : (z % (m : Int)).toNat < m := by
        have := Int.emod_lt_of_pos z (show (0 : Int) < (m : Int) by omega)
        have := Int.emod_nonneg z (show (m : Int) ≠ 0 by omega)
        omega
      have := k ns' _ (by simp) e3
      show Q (.int (z % (m : Int))) _
      rw [e2]
      exact this
end
/-! ### the pool -/
def spPool (K : PySem.W.Frag) : Sp := fun vs H Q _ => ∃ (a : Addr) (ns : List Int), vs = [.ref a, nV 840] ∧ SqL K H a (zvs ns) ∧ ns.length ≤ 63 ∧ ∀ H' p ns', Same H H' → H' p = some (.lst (zvs ns')) → ns'.length ≤ 10000 → Q (.ref p) H'
theorem scPool : FnScope ["_law_script", "_law_many", "_law_pool_here", "_law_total", "_law_cell", "_law_rest", "_law_k", "_law_first", "_law_second"] ["_law_script", "_law_many"] (defScope sPool) := ⟨rfl, rfl, rfl, by decide +kernel, rfl, by decide +kernel, by decide +kernel⟩
section
variable {P : Program} {w : World} {K : PySem.W.Frag} {mg : Str → Option Value} {base : Heap}
theorem ok_pool {f : Addr} {fd : FuncData} (F : Fun K "_law_pool" "_law_pool" sPool f fd) (T : Gb K mg) : FnOk P w K mg base CX0 1 f fd ["_law_script", "_law_many"] (spPool K) := by
  refine F.ok scPool (fun vs H Q E h => ?_) (fun cdv A outer s H vs Q E hr h => ?_)
  · obtain ⟨_, _, rfl, _⟩ := h
    rfl
  · obtain ⟨a, ns, rfl, ha, hlen, k⟩ := h
    refine ⟨_, (pss_cons (ps_set (i := 2) scPool.nd rfl (Or.inl rfl) (pe_lst pa_nil))
      (pss_cons (ps_set (i := 3) scPool.nd rfl (Or.inl rfl) pe_int)
      (pss_cons (ps_for PassesOwn.never rfl (pi_list (pv 0)) (pg_name (i := 4) scPool.nd rfl (Or.inl rfl))
        (pss_cons (ps_set (i := 5) scPool.nd rfl (Or.inl rfl) (pe_callTy call_int1 (by rfl) T.int (by decide +kernel) (pa_cons (pe_callB call_abs (by rfl) T.abs (by decide +kernel) (pa_cons (pv 4) pa_nil)) pa_nil)))
          (pss_cons (ps_if (pt_cmpR op_ge (pv 5) (pe_op op_pow pe_int pe_int) (nomark _))
            (pss_one (ps_for PassesOwn.never rfl (pi_range1 (by rfl) T.range (pa_cons (pe_callB (call_min2 rfl) (by rfl) T.min (by decide +kernel) (pa_cons pe_int (pa_cons (pe_op op_sub (pv 1) (pe_callB call_len_seq (by rfl) T.len PySem.boot_len (pa_cons (pv 2) pa_nil))) pa_nil))) pa_nil)) (pg_name (i := 6) scPool.nd rfl (Or.inl rfl))
                (pss_cons (ps_expr (pe_bm PySem.F.plainAttrs_list PySem.F.slot_list_append PySem.F.type_list_append mt_append (pv 2) (pa_cons (pe_op op_mod (pe_callTy call_int1 (by rfl) T.int (by decide +kernel) (pa_cons (pv 5) pa_nil)) pe_int) pa_nil)))
                  (pss_cons (ps_set (i := 5) scPool.nd rfl (Or.inl rfl) (pe_op op_fdiv (pv 5) pe_int))
                  (pss_one (ps_if (pt_cmpR op_eq (pv 5) pe_int (nomark _))
                    (pss_one ps_break)
                    pss_nil))))))
            (pss_cons (ps_set (i := 7) scPool.nd rfl (Or.inl rfl) (pe_op op_mod (pe_callTy call_int1 (by rfl) T.int (by decide +kernel) (pa_cons (pe_op op_add (pe_op op_add (pe_op op_mul (pv 4) pe_int) (pe_op op_mul (pe_callB call_len_seq (by rfl) T.len PySem.boot_len (pa_cons (pv 2) pa_nil)) pe_int)) pe_int) pa_nil)) pe_int))
              (pss_cons (ps_set (i := 8) scPool.nd rfl (Or.inl rfl) (pe_op op_mod (pe_callTy call_int1 (by rfl) T.int (by decide +kernel) (pa_cons (pe_op op_add (pe_op op_mul (pv 7) (pv 7)) pe_int) pa_nil)) pe_int))
              (pss_cons (ps_expr (pe_bm PySem.F.plainAttrs_list PySem.F.slot_list_append PySem.F.type_list_append mt_append (pv 2) (pa_cons (pe_op op_mod (pe_callTy call_int1 (by rfl) T.int (by decide +kernel) (pa_cons (pe_op op_fdiv (pv 8) pe_int) pa_nil)) pe_int) pa_nil)))
              (pss_one (ps_expr (pe_bm PySem.F.plainAttrs_list PySem.F.slot_list_append PySem.F.type_list_append mt_append (pv 2) (pa_cons (pe_op op_mod (pe_op op_mod (pe_callTy call_int1 (by rfl) T.int (by decide +kernel) (pa_cons (pe_op op_add (pe_op op_mul (pv 8) pe_int) (pv 7)) pa_nil)) pe_int) pe_int) pa_nil))))))))
          (pss_one (ps_set (i := 3) scPool.nd rfl (Or.inl rfl) (pe_op op_mod (pe_callTy call_int1 (by rfl) T.int (by decide +kernel) (pa_cons (pe_op op_add (pe_op op_mul (pv 3) pe_int) (pv 4)) pa_nil)) pe_int))))))
      (pss_cons (ps_for PassesOwn.never rfl (pi_range1 (by rfl) T.range (pa_cons (pv 1) pa_nil)) (pg_name (i := 6) scPool.nd rfl (Or.inl rfl))
        (pss_cons (ps_set (i := 3) scPool.nd rfl (Or.inl rfl) (pe_op op_mod (pe_callTy call_int1 (by rfl) T.int (by decide +kernel) (pa_cons (pe_op op_add (pe_op op_add (pe_op op_mul (pv 3) pe_int) (pe_op op_mul (pv 6) pe_int)) pe_int) pa_nil)) pe_int))
          (pss_one (ps_expr (pe_bm PySem.F.plainAttrs_list PySem.F.slot_list_append PySem.F.type_list_append mt_append (pv 2) (pa_cons (pe_op op_mod (pe_callTy call_int1 (by rfl) T.int (by decide +kernel) (pa_cons (pe_op op_fdiv (pv 3) pe_int) pa_nil)) pe_int) pa_nil))))))
      (pss_cons (ps_set (i := 2) scPool.nd rfl (Or.inl rfl) (pe_slice sl_list (pv 2) po_none (po_some (pv 1))))
      (pss_cons (ps_expr (pe_bm0 PySem.F.plainAttrs_list PySem.F.slot_list_reverse PySem.F.type_list_reverse mt_reverse (pv 2)))
      (pss_one (ps_ret (pv 2))))))))), ?_⟩
    refine ⟨Nat.zero_le _, fun l hl => ?_⟩
    refine ⟨_, rfl, a, rfl, ⟨_, (Same.new hl).seq ha⟩, for_list (K := K) (a := a) (xs := zvs ns) (fun i σ H' => ∃ (tot : Int) (v4 v5 v6 v7 v8 : Option V) (ks : List Int), σ = [some (.ref a), some (nV 840), some (.ref l), some (.int tot), v4, v5, v6, v7, v8] ∧ Same H H' ∧ H' l = some (.lst (zvs ks)) ∧ ks.length ≤ 62 * i ∧ i ≤ 63)
      ⟨_, _, _, _, _, _, [], rfl, Same.new hl, upd_same, Nat.zero_le _, by omega⟩ (fun i σ H' _ ⟨_, _, _, _, _, _, _, _, s1, _⟩ => s1.seq ha) ?_ ?_⟩
    · rintro i x σ H1 hi ⟨tot, v4, v5, v6, v7, v8, ks, rfl, s1, l1, n1, ni⟩
      have hi63 : i < ns.length := by simpa [zvs] using (List.getElem?_eq_some_iff.mp hi).1
      obtain ⟨cell, rfl⟩ : ∃ c, x = V.int c := by
        have h' : (ns.map V.int)[i]? = some x := hi
        rw [List.getElem?_map] at h'
        cases e : ns[i]? with
        | none => rw [e] at h'; cases h'
        | some u => rw [e] at h'; exact ⟨u, (Option.some.inj h').symm⟩
      refine ⟨_, rfl, _, rfl, .inl ⟨_, rfl, ?_⟩⟩
      refine ⟨_, rfl, _, _, rfl, rfl, ⟨by decide, by decide, by decide⟩, _, _, rfl, rfl, _, rfl, ?_⟩
      refine itB (fun c => ?_) (fun c => ?_)
      · refine ⟨_, rfl, _, rfl, l, _, rfl, .inl (SqL.of l1), _, _, rfl, rfl, _, _, rfl, _, rfl, ?_, ?_, for_range (lo := 0) (fun j σ H' => ∃ (rest : Int) (v6 : Option V) (ks : List Int), σ = [some (.ref a), some (nV 840), some (.ref l), some (.int tot), some (.int cell), some (.int rest), v6, v7, v8] ∧ Same H H' ∧ H' l = some (.lst (zvs ks)) ∧ ks.length ≤ 62 * i + j ∧ j ≤ 60) ⟨_, _, ks, rfl, s1, l1, by omega, by omega⟩ ?_ ?_⟩
        · rw [zvs_len]; split <;> omega
        · rw [zvs_len]; split <;> omega
        · rintro j σ H2 hj ⟨rest, v6, ks2, rfl, s2, l2, n2, nj⟩
          have hj60 : j < 60 := by
            refine Nat.lt_of_lt_of_le hj ?_
            rw [zvs_len]; split <;> omega
          refine ⟨_, rfl, .inl ⟨rfl, _, SqL.of l2⟩, _, rfl, .inl ⟨_, rfl, _, _, rfl, rfl, (by show (0 : Int) < 2520; decide), l, _, _, rfl, rfl, l2, by rw [zvs_len]; exact line_big' (by omega), ?_⟩⟩
          refine ⟨_, rfl, _, _, rfl, rfl, ⟨by decide, by decide⟩, ?_⟩
          refine ⟨_, rfl, rfl, _, rfl, ?_⟩
          refine itB (fun _ => ?_) (fun _ => ?_)
          · refine ⟨_, rfl, _, _, rfl, rfl, .inr ⟨by decide, by decide⟩, _, rfl, _, _, rfl, rfl, .inl ⟨_, rfl, _, _, rfl, rfl, (by show (0 : Int) < 1000003; decide), ?_⟩⟩
            exact ⟨_, _, _, _, _, _, _, rfl, s2.put hl, by rw [upd_same, zvs_snoc], by simp; omega, by omega⟩
          · exact ⟨_, _, _, rfl, s2.put hl, by rw [upd_same, zvs_snoc], by simp; omega, by omega⟩
        · rintro σ H2 ⟨rest, v6, ks2, rfl, s2, l2, n2, nj⟩
          refine ⟨_, rfl, _, _, rfl, rfl, .inr ⟨by decide, by decide⟩, _, rfl, _, _, rfl, rfl, .inl ⟨_, rfl, _, _, rfl, rfl, (by show (0 : Int) < 1000003; decide), ?_⟩⟩
          exact ⟨_, _, _, _, _, _, _, rfl, s2, l2, by omega, by omega⟩
      · refine ⟨_, rfl, _, _, rfl, rfl, .inr ⟨by decide, by decide⟩, _, rfl, l, _, rfl, .inl (SqL.of l1), _, _, rfl, rfl, .inr ⟨by decide, by decide⟩, _, _, rfl, rfl, _, _, rfl, rfl, .inl ⟨_, rfl, _, _, rfl, rfl, (by show (0 : Int) < 2147483647; decide), ?_⟩⟩
        refine ⟨_, rfl, _, rfl, _, _, rfl, rfl, .inl ⟨by omega, by omega⟩, _, _, rfl, rfl, .inl ⟨_, rfl, _, _, rfl, rfl, (by show (0 : Int) < 2147483629; decide), ?_⟩⟩
        refine ⟨_, rfl, .inl ⟨rfl, _, SqL.of l1⟩, _, rfl, _, _, rfl, rfl, ⟨by decide, by decide⟩, .inl ⟨_, rfl, _, _, rfl, rfl, (by show (0 : Int) < 2520; decide), l, _, _, rfl, rfl, l1, by rw [zvs_len]; exact line_big' (by omega), ?_⟩⟩
        generalize hH2 : upd H1 l _ = H2
        obtain ⟨w1, l2⟩ : ∃ w, H2 l = some (.lst (zvs (ks ++ [w]))) := ⟨_, by rw [← hH2, upd_same]; exact congrArg (fun x => some (HO.lst x)) (zvs_snoc ks _)⟩
        have s2 : Same H H2 := by rw [← hH2]; exact s1.put hl
        refine ⟨_, rfl, .inl ⟨rfl, _, SqL.of l2⟩, _, rfl, _, _, rfl, rfl, .inr ⟨by decide, by decide⟩, _, rfl, _, _, rfl, rfl, .inl ⟨_, rfl, _, _, rfl, rfl, (by show (0 : Int) < 2147483587; decide), _, _, rfl, rfl, (by show (0 : Int) < 2520; decide), l, _, _, rfl, rfl, l2, by rw [zvs_len]; exact line_big' (by simp; omega), ?_⟩⟩
        refine ⟨_, rfl, _, _, rfl, rfl, .inr ⟨by decide, by decide⟩, _, rfl, _, _, rfl, rfl, .inl ⟨_, rfl, _, _, rfl, rfl, (by show (0 : Int) < 1000003; decide), ?_⟩⟩
        exact ⟨_, _, _, _, _, _, _, rfl, s2.put hl, by rw [upd_same, zvs_snoc], by simp; omega, by omega⟩
    · rintro σ H1 ⟨tot, v4, v5, v6, v7, v8, ks, rfl, s1, l1, n1, ni⟩
      have nz : (zvs ns).length ≤ 63 := by rw [zvs_len]; exact hlen
      refine ⟨_, rfl, _, rfl, by decide, by decide, for_range (lo := 0) (n := (840 : Int).toNat) (fun j σ H' => ∃ (tot : Int) (v4 v5 v6 v7 v8 : Option V) (ks : List Int), σ = [some (.ref a), some (nV 840), some (.ref l), some (.int tot), v4, v5, v6, v7, v8] ∧ Same H H' ∧ H' l = some (.lst (zvs ks)) ∧ ks.length ≤ 62 * 63 + j)
        ⟨_, _, _, _, _, _, ks, rfl, s1, l1, by omega⟩ ?_ ?_⟩
      · rintro j σ H2 hj ⟨tot, v4, v5, v6, v7, v8, ks2, rfl, s2, l2, n2⟩
        have hj' : j < 840 := hj
        refine ⟨_, rfl, _, _, rfl, rfl, .inr ⟨by decide, by decide⟩, _, rfl, _, _, rfl, rfl, .inr ⟨by decide, by decide⟩, _, _, rfl, rfl, _, _, rfl, rfl, .inl ⟨_, rfl, _, _, rfl, rfl, (by show (0 : Int) < 2147483647; decide), ?_⟩⟩
        refine ⟨_, rfl, .inl ⟨rfl, _, SqL.of l2⟩, _, rfl, _, _, rfl, rfl, ⟨by decide, by decide⟩, .inl ⟨_, rfl, _, _, rfl, rfl, (by show (0 : Int) < 2520; decide), l, _, _, rfl, rfl, l2, by rw [zvs_len]; exact line_big' (by omega), ?_⟩⟩
        exact ⟨_, _, _, _, _, _, _, rfl, s2.put hl, by rw [upd_same, zvs_snoc], by simp; omega⟩
      · rintro σ H2 ⟨tot, v4, v5, v6, v7, v8, ks2, rfl, s2, l2, n2⟩
        have n2' : ks2.length ≤ 62 * 63 + 840 := n2
        refine ⟨_, rfl, _, rfl, _, rfl, l, _, rfl, SqL.of l2, fun p hp => ?_⟩
        have ec : cutV (zvs ks2) none (some 840) = zvs (ks2.take 840) := by
          rw [show (840 : Int) = ((840 : Nat) : Int) from rfl, cutV_to]; simp [zvs]
        have s3 : Same H (upd H2 p (.lst (cutV (zvs ks2) none (some 840)))) := s2.trans (Same.new hp)
        have p3 : (upd H2 p (.lst (cutV (zvs ks2) none (some 840)))) p = some (.lst (zvs (ks2.take 840))) := by rw [upd_same, ec]
        have hpH : H p = none := s2.free hp
        show tSeq _ _ _ _ (upd H2 p (.lst (cutV (zvs ks2) none (some 840))))
        generalize upd H2 p (.lst (cutV (zvs ks2) none (some 840))) = H3 at s3 p3 ⊢
        refine ⟨_, rfl, .inl ⟨rfl, _, SqL.of p3⟩, p, _, rfl, rfl, p3, ?_⟩
        refine ⟨_, rfl, k _ p (ks2.take 840).reverse (s3.put hpH) (by rw [upd_same]; simp [zvs]) (by rw [List.length_reverse, List.length_take]; omega)⟩
end
end Rj

set_option Elab.async false
set_option linter.all false
set_option maxRecDepth 100000
namespace Rj
open PySem L2 PyProof.Rows
/-! ### staged -/
def spStaged : Sp := fun vs H Q _ => ∃ (pl rl : Addr) (as : List Addr) (ps : List (Nat × Nat)) (b : Nat) (L : List Nat), vs = [.ref pl, nV b, .ref rl, nV ps.length] ∧ H pl = some (.lst (as.map V.ref)) ∧ PairsAt H as ps ∧ ps.length ≤ 1000 ∧ Wf (prf ps) b ps.length ∧
  H rl = some (.lst (ivs L)) ∧ L.length ≤ 1000 ∧ ∀ H' q, Same H H' → (q = rl ∨ H q = none) → H' q = some (.lst (ivs (cutP b ps L))) → Q (.ref q) H'
theorem scStaged : FnScope ["_law_pairs_here", "_law_letters", "_law_row", "_law_many", "_law_rank", "_law_out", "_law_piece"] ["_law_pairs_here", "_law_letters", "_law_row", "_law_many"] (defScope sStaged) := ⟨rfl, rfl, rfl, by decide +kernel, rfl, by decide +kernel, by decide +kernel⟩
section
variable {P : Program} {w : World} {K : PySem.W.Frag} {mg : Str → Option Value} {base : Heap}
theorem stk_len {x y z a : Nat} {O : List Nat} : (stk x y z O a).length ≤ O.length + 1 := by
  unfold stk; split <;> (simp; try omega)
theorem ok_staged {f : Addr} {fd : FuncData} (F : Fun K "_law_staged" "_law_staged" sStaged f fd) (T : Gb K mg) : FnOk P w K mg base CX0 1 f fd ["_law_pairs_here", "_law_letters", "_law_row", "_law_many"] spStaged := by
  refine F.ok scStaged (fun vs H Q E h => ?_) (fun cdv A outer s H vs Q E hr h => ?_)
  · obtain ⟨_, _, _, _, _, _, rfl, _⟩ := h
    rfl
  · obtain ⟨pl, rl, as, ps, b, L, rfl, hp, hps, hn, wf, hrl, hlen, k⟩ := h
    have slen := fun t => Nat.le_trans (stR_len (pr := prf ps) (b := b) (L := L) t) hlen
    refine ⟨_, (pss_cons (ps_for PassesOwn.never rfl (pi_range1 (by rfl) T.range (pa_cons (pv 3) pa_nil)) (pg_name (i := 4) scStaged.nd rfl (Or.inl rfl))
        (pss_cons (ps_set (i := 5) scStaged.nd rfl (Or.inl rfl) (pe_lst pa_nil))
          (pss_cons (ps_for PassesOwn.never rfl (pi_list (pe_callTy call_list_of (by rfl) T.list (by decide +kernel) (pa_cons (pv 2) pa_nil))) (pg_name (i := 6) scStaged.nd rfl (Or.inl rfl))
            (pss_one (ps_if (PW.pt (pw_and (pt_cmpR op_gt (pe_callB call_len_seq (by rfl) T.len PySem.boot_len (pa_cons (pv 5) pa_nil)) pe_int (nomark _)) (pw_and (pt_cmpR op_eq (pv 6) (pe_ix ix_tup (pe_ix ix_list (pv 0) (pv 4) (fun _ _ => rfl)) pe_int (fun _ _ => rfl)) (nomark _)) (pw_and1 (pt_cmpR op_eq (pe_ix ix_list (pv 5) (pe_un un_neg pe_int) (fun _ _ => rfl)) (pe_ix ix_tup (pe_ix ix_list (pv 0) (pv 4) (fun _ _ => rfl)) pe_int (fun _ _ => rfl)) (nomark _))))))
                (pss_one (ps_asg (pe_op op_add (pv 1) (pv 4)) (pg_sub (pv 5) (pe_un un_neg pe_int) set_list)))
                (pss_one (ps_expr (pe_bm PySem.F.plainAttrs_list PySem.F.slot_list_append PySem.F.type_list_append mt_append (pv 5) (pa_cons (pv 6) pa_nil)))))))
          (pss_one (ps_set (i := 2) scStaged.nd rfl (Or.inl rfl) (pv 5))))))
      (pss_one (ps_ret (pv 2)))), ?_⟩
    refine ⟨_, rfl, _, rfl, by omega, by omega, for_range (lo := 0) (n := ((ps.length : Nat) : Int).toNat) (fun r σ H' => ∃ (rl' : Addr) (v4 v5 v6 : Option V), σ = [some (.ref pl), some (nV b), some (.ref rl'), some (nV ps.length), v4, v5, v6] ∧ Same H H' ∧ (rl' = rl ∨ H rl' = none) ∧ H' rl' = some (.lst (ivs (stR (prf ps) b r L))))
      ⟨rl, _, _, _, rfl, Same.refl H, .inl rfl, hrl⟩ ?_ ?_⟩
    · rintro r σ H1 hr0 ⟨rl', v4, v5, v6, rfl, s1, f1, r1⟩
      have hr1 : r < ps.length := by omega
      obtain ⟨t, ht, hT⟩ := hps.2 r _ (prf_get hr1)
      have wr := wf r hr1
      generalize hx : (prf ps r).1 = x at wr
      generalize hy : (prf ps r).2 = y at wr
      have hT' : H t = some (.tup [nV x, nV y]) := by rw [hT, ← hx, ← hy]; rfl
      generalize hR : stR (prf ps) b r L = R at r1
      have hRlen : R.length ≤ 1000 := by rw [← hR]; exact slen r
      refine ⟨Nat.zero_le _, fun l hl => ?_⟩
      have r2 : (upd H1 l (.lst [])) rl' = some (.lst (ivs R)) := (Same.new hl) _ _ r1
      have s2 : Same H (upd H1 l (.lst [])) := s1.trans (Same.new hl)
      have l2 : (upd H1 l (.lst [])) l = some (.lst (ivs [])) := upd_same
      have hlH : H l = none := s1.free hl
      generalize upd H1 l (.lst []) = H2 at r2 s2 l2 ⊢
      refine ⟨_, rfl, rl', _, rfl, .inl (SqL.of r2), fun c hc => ⟨c, rfl, ⟨_, SqL.of upd_same⟩, for_list (K := K) (a := c) (xs := ivs R) (fun i σ H' => ∃ (v6 : Option V), σ = [some (.ref pl), some (nV b), some (.ref rl'), some (nV ps.length), some (.int ((0 : Int) + (r : Nat))), some (.ref l), v6] ∧ Same H H' ∧ H' c = some (.lst (ivs R)) ∧ H' l = some (.lst (ivs ((R.take i).foldl (stk x y (b + r)) []))) ∧ ((R.take i).foldl (stk x y (b + r)) []).length ≤ i)
        ⟨_, rfl, s2.trans (Same.new hc), upd_same, (Same.new hc) _ _ l2, Nat.le_refl _⟩ (fun i σ H' _ ⟨_, _, _, c3, _⟩ => SqL.of c3) ?_ ?_⟩⟩
      · rintro i v σ H3 hi ⟨v6, rfl, s3, c3, l3, n3⟩
        have hi0 : i < R.length := by simpa [ivs] using (List.getElem?_eq_some_iff.mp hi).1
        have gi : R[i]? = some R[i] := List.getElem?_eq_getElem hi0
        have ev : v = nV R[i] := by
          have := ivs_get gi
          rw [hi] at this; exact Option.some.inj this
        subst ev
        have etk : (R.take (i + 1)).foldl (stk x y (b + r)) [] = stk x y (b + r) ((R.take i).foldl (stk x y (b + r)) []) R[i] := by
          rw [List.take_add_one, gi, List.foldl_append]; rfl
        generalize hO : (R.take i).foldl (stk x y (b + r)) [] = O at l3 n3 etk
        have ncl : c ≠ l := by
          intro e
          have := hc
          rw [e, l2] at this; cases this
        have fin : ∀ O' : List Nat, stk x y (b + r) O R[i] = O' → ∃ (v6 : Option V), [some (.ref pl), some (nV b), some (.ref rl'), some (nV ps.length), some (.int ((0 : Int) + (r : Nat))), some (.ref l), some (nV R[i])] = [some (.ref pl), some (nV b), some (.ref rl'), some (nV ps.length), some (.int ((0 : Int) + (r : Nat))), some (.ref l), v6] ∧
            Same H (upd H3 l (.lst (ivs O'))) ∧ (upd H3 l (.lst (ivs O'))) c = some (.lst (ivs R)) ∧ (upd H3 l (.lst (ivs O'))) l = some (.lst (ivs ((R.take (i + 1)).foldl (stk x y (b + r)) []))) ∧ ((R.take (i + 1)).foldl (stk x y (b + r)) []).length ≤ i + 1 := fun O' e =>
          ⟨_, rfl, s3.put hlH, by rw [upd_ne ncl]; exact c3, by rw [upd_same, etk, e], by rw [etk]; exact Nat.le_trans stk_len (by omega)⟩
        have app : stk x y (b + r) O R[i] = O ++ [R[i]] → _ := fin (O ++ [R[i]])
        rw [← ivs_snoc] at app
        have hpl3 := s3 _ _ hp
        have hT3 := s3 _ _ hT'
        have gt : (as.map V.ref)[r]? = some (.ref t) := by rw [List.getElem?_map, ht]; rfl
        refine ⟨_, rfl, l, _, rfl, .inl (SqL.of l3), _, _, rfl, rfl, _, rfl, ?_⟩
        rw [ivs_len]
        by_cases hO0 : O = []
        · refine itF (decide_eq_false (by rw [hO0]; simp)) (iteF ?_)
          refine ⟨_, rfl, .inl ⟨rfl, _, SqL.of l3⟩, _, rfl, l, _, _, rfl, rfl, l3, by rw [ivs_len]; exact line_big' (by omega), ?_⟩
          exact app (by rw [stk, if_neg]; rw [hO0]; simp)
        · obtain ⟨O1, o, rfl⟩ : ∃ O1 o, O = O1 ++ [o] := ⟨_, _, (List.dropLast_concat_getLast hO0).symm⟩
          refine itT (decide_eq_true (by simp <;> omega)) ?_
          refine ⟨_, rfl, _, rfl, _, rfl, pl, _, _, _, rfl, rfl, SqL.of hpl3, at_of (j := r) (by omega) gt, t, _, _, _, rfl, rfl, SqT.of hT3, at_of (j := 1) rfl rfl, rfl, _, rfl, ?_⟩
          by_cases c1 : R[i] = y
          · refine itT (decide_eq_true (by rw [c1])) ?_
            have al3 : atI (ivs (O1 ++ [o])) (-1) = some (nV o) := by rw [← ivs_snoc]; exact atI_last _ _
            refine ⟨_, rfl, _, rfl, l, _, _, _, rfl, rfl, SqL.of l3, al3, _, rfl, _, rfl, pl, _, _, _, rfl, rfl, SqL.of hpl3, at_of (j := r) (by omega) gt, t, _, _, _, rfl, rfl, SqT.of hT3, at_of (j := 0) rfl rfl, rfl, _, rfl, ?_⟩
            by_cases c2 : o = x
            · refine itT (decide_eq_true (by rw [c2])) ?_
              refine ⟨_, rfl, _, rfl, _, _, rfl, rfl, _, rfl, _, rfl, l, _, _, O1.length, rfl, rfl, l3, ?_, ?_⟩
              · rw [ivs_len]; unfold ixN; simp <;> omega
              have e1 : (ivs (O1 ++ [o])).set O1.length (V.int ((b : Int) + ((0 : Int) + (r : Nat)))) = ivs (O1 ++ [b + r]) := by
                rw [← ivs_snoc, ← ivs_snoc, List.set_append_right _ _ (by rw [ivs_len]; exact Nat.le_refl _), ivs_len, Nat.sub_self, Int.zero_add]; rfl
              show ∃ v6, _ ∧ Same H (upd H3 l (.lst ((ivs (O1 ++ [o])).set O1.length (V.int ((b : Int) + ((0 : Int) + (r : Nat))))))) ∧ _
              rw [e1]
              exact fin (O1 ++ [b + r]) (by rw [stk, if_pos ⟨c1, by rw [List.getLast?_concat, c2]⟩, List.dropLast_concat])
            · refine itF (decide_eq_false (fun q => c2 (nbf.mp q))) ?_
              refine ⟨_, rfl, .inl ⟨rfl, _, SqL.of l3⟩, _, rfl, l, _, _, rfl, rfl, l3, by rw [ivs_len]; exact line_big' (by omega), ?_⟩
              exact app (by rw [stk, if_neg]; rintro ⟨_, q⟩; rw [List.getLast?_concat] at q; exact c2 (Option.some.inj q))
          · refine itF (decide_eq_false (fun q => c1 (nbf.mp q))) (iteF ?_)
            refine ⟨_, rfl, .inl ⟨rfl, _, SqL.of l3⟩, _, rfl, l, _, _, rfl, rfl, l3, by rw [ivs_len]; exact line_big' (by omega), ?_⟩
            exact app (by rw [stk, if_neg]; exact fun q => c1 q.1)
      · rintro σ H3 ⟨v6, rfl, s3, c3, l3, n3⟩
        rw [ivs_len, List.take_length, stk_jn (by omega)] at l3
        refine ⟨_, rfl, l, _, _, _, rfl, s3, .inr hlH, ?_⟩
        rw [stR, hR, hx, hy]; exact l3
    · rintro σ H1 ⟨rl', v4, v5, v6, rfl, s1, f1, r1⟩
      exact ⟨_, rfl, k H1 rl' s1 f1 r1⟩
end
/-! ### cut, by the law -/
theorem find_sign {al : List Nat} (nd : al.Nodup) {i : Nat} (h : i < al.length) : Txt.find (tS al) (tS [al.getD i 0]) = (i : Int) := by
  have g : al[i]? = some (al.getD i 0) := by rw [List.getD_eq_getElem?_getD, List.getElem?_eq_getElem h]; rfl
  have at_ : ∀ j, StrLaws.At (tS al) (tS [al.getD i 0]) (tS al).length j ↔ al[j]? = some (al.getD i 0) := fun j => by
    rw [tS_len]
    have e : PySem.Builtin.Str.subAt (tS al) (tS [al.getD i 0]) j = ((al.drop j).take 1 == [al.getD i 0]) := by rw [StrLaws.subAt_eq, tS_len]; rfl
    constructor
    · rintro ⟨h1, h2⟩
      rw [tS_len] at h1
      have h1' : j < al.length := by simp at h1; omega
      rw [e, List.drop_eq_getElem_cons h1'] at h2
      have h3 : [al[j]] = [al.getD i 0] := eq_of_beq h2
      rw [List.getElem?_eq_getElem h1', (List.cons.inj h3).1]
    · intro q
      obtain ⟨h1, h2⟩ := List.getElem?_eq_some_iff.mp q
      refine ⟨by rw [tS_len]; simp; omega, ?_⟩
      rw [e, List.drop_eq_getElem_cons h1, h2]; exact beq_self_eq_true _
  rcases find_whole (tS al) (tS [al.getD i 0]) with ⟨_, hn⟩ | ⟨j, hj, ha, _⟩
  · exact absurd ((at_ i).mpr g) (hn i)
  · have := (at_ j).mp ha
    rw [hj, nd_ix nd this g]
def spLCut : Sp := fun vs H Q _ => ∃ (pl : Addr) (as : List Addr) (al : List Nat) (ps : List (Nat × Nat)) (L : List Nat), vs = [.ref pl, .str (tS al), .str (tx al L)] ∧ H pl = some (.lst (as.map V.ref)) ∧ PairsAt H as ps ∧ ps.length ≤ 1000 ∧ Wf (prf ps) al.length ps.length ∧
  Al al ∧ Ls al.length L ∧ L.length ≤ 1000 ∧ ∀ H' q, Same H H' → H q = none → H' q = some (.lst (ivs (cutP al.length ps L))) → Q (.ref q) H'
theorem scLCut : FnScope ["_law_pairs_here", "_law_alphabet_here", "_law_text_here", "_law_sign"] ["_law_pairs_here", "_law_alphabet_here", "_law_text_here"] (defScope sLCut) := ⟨rfl, rfl, rfl, by decide +kernel, rfl, by decide +kernel, by decide +kernel⟩
section
variable {P : Program} {w : World} {K : PySem.W.Frag} {mg : Str → Option Value} {base : Heap}
theorem ok_lcut {f : Addr} {fd : FuncData} (F : Fun K "_law_cut" "_law_cut" sLCut f fd) (T : Gb K mg) (D_law_staged : Df P w K mg base "_law_staged" ["_law_pairs_here", "_law_letters", "_law_row", "_law_many"] 1 spStaged) : FnOk P w K mg base CX0 2 f fd ["_law_pairs_here", "_law_alphabet_here", "_law_text_here"] spLCut := by
  refine F.ok scLCut (fun vs H Q E h => ?_) (fun cdv A outer s H vs Q E hr h => ?_)
  · obtain ⟨_, _, _, _, _, rfl, _⟩ := h
    rfl
  · obtain ⟨pl, as, al, ps, L, rfl, hp, hps, hn, wf, hA, hL, hlen, k⟩ := h
    have hl : (tS al).length = al.length := tS_len al
    have hm := hA.many
    refine ⟨_, (pss_one (ps_ret (pe_df D_law_staged (hr.mono (by decide)) (pa_cons (pv 0) (pa_cons (pe_callB call_len_str (by rfl) T.len PySem.boot_len (pa_cons (pv 1) pa_nil)) (pa_cons (pe_lc (own := [("_law_sign", 3)]) (g := gName 3) (by rfl) scLCut.nd (pi_str (pv 2)) (blkOk_by (own := [("_law_sign", 3)]) (N := ["_law_pairs_here", "_law_alphabet_here", "_law_text_here", "_law_sign"]) (sc := defScope sLCut) (by decide +kernel)) (fun _ _ _ _ _ => pg_name (i := 3) scLCut.nd rfl (Or.inl rfl)) (fun _ _ _ _ _ => pts_nil) (fun _ _ _ _ _ => by exact (pe_m1 PySem.F.slot_str_find PySem.F.type_str_find mt_find (pv 1) (pv 3)))) (pa_cons (pe_callB call_len_seq (by rfl) T.len PySem.boot_len (pa_cons (pv 0) pa_nil)) pa_nil))))))), ?_⟩
    refine ⟨_, rfl, _, rfl, _, rfl, line_big (by rw [hl]; omega), ?_⟩
    rw [hl]
    refine ⟨_, rfl, _, rfl, fun D hD => lc_it walk_str (fun i H' => Same H H' ∧ H' D = some (.lst (ivs (L.take i)))) ⟨Same.new hD, upd_same⟩ (fun _ _ _ _ => trivial) ?_ ?_⟩
    · rintro i c H1 H' hi ⟨s0, hLs⟩ ⟨rfl, cc, hc, rfl⟩
      obtain ⟨a, ha, rfl⟩ := tx_get hc
      have hab : a < al.length := hL a (List.mem_of_getElem? ha)
      refine ⟨rfl, tt_yes ?_⟩
      refine ⟨_, rfl, ⟨_, rfl⟩, _, rfl, _, _, rfl, rfl, _, hLs, by rw [ivs_len]; exact line_big' (by rw [List.length_take]; omega), s0.put hD, ?_⟩
      rw [upd_same, show (⟨#[al.getD a 0]⟩ : Str) = tS [al.getD a 0] from rfl, find_sign hA.nodup hab, List.take_add_one, ha]
      exact congrArg (fun x => some (HO.lst x)) (ivs_snoc _ _)
    · rintro H1 ⟨s0, hLs⟩
      rw [tx_cps, List.take_length] at hLs
      refine ⟨_, rfl, pl, _, rfl, .inl (SqL.of (s0 _ _ hp)), ?_⟩
      rw [List.length_map, hps.1]
      exact ⟨pl, D, as, ps, al.length, L, rfl, s0 _ _ hp, hps.same s0, hn, wf, hLs, hlen, fun H2 q s2 fq hq => k H2 q (s0.trans s2) (fq.elim (fun e => e ▸ hD) fun h => s0.free h) hq⟩
end
/-! ### same -/
theorem kit_no2 {K : PySem.W.Frag} {T : String} (h1 : kitB T "tuple" = some false) (h2 : kitB T "list" = some false) : PySem.W.kitAny K (.type T) [.type "tuple", .type "list"] = some false :=
  kitAny_cons (kit_ty h1) (fun _ => kitAny_cons (kit_ty h2) (fun _ => kitAny_nil) (fun h => by cases h)) (fun h => by cases h)
theorem kit_tup {K : PySem.W.Frag} : PySem.W.kitAny K (.type "tuple") [.type "tuple", .type "list"] = some true :=
  kitAny_cons (b := true) (kit_ty (by decide +kernel)) (fun h => by cases h) (fun _ => rfl)
def spSame1 : Sp := fun vs H Q _ => ((∃ n : Int, vs = [.int n, .int n]) ∨ ∃ t : Str, vs = [.str t, .str t]) ∧ ∀ H', Same H H' → Q (.bl true) H'
theorem scSame : FnScope ["_law_told", "_law_due", "_law_k"] ["_law_told", "_law_due"] (defScope sSame) := ⟨rfl, rfl, rfl, by decide +kernel, rfl, by decide +kernel, by decide +kernel⟩
section
variable {P : Program} {w : World} {K : PySem.W.Frag} {mg : Str → Option Value} {base : Heap}
theorem ok_same1 {f : Addr} {fd : FuncData} (F : Fun K "_law_same" "_law_same" sSame f fd) (T : Gb K mg) : FnOk P w K mg base CX0 1 f fd ["_law_told", "_law_due"] spSame1 := by
  refine F.ok scSame (fun vs H Q E h => ?_) (fun cdv A outer s H vs Q E hr h => ?_)
  · obtain ⟨⟨_, rfl⟩ | ⟨_, rfl⟩, _⟩ := h <;> rfl
  · skip
    refine ⟨_, (pss_cons (ps_if (pt_val (pe_callB call_isiT (by rfl) T.isinstance (by decide +kernel) (pa_cons (pv 1) (pa_cons (pe_tup (pa_cons (pe_bltn (v := .ty "tuple") (u := .type "tuple") (by rfl) T.tuple (by decide +kernel) rfl) (pa_cons (pe_bltn (v := .ty "list") (u := .type "list") (by rfl) T.list (by decide +kernel) rfl) pa_nil))) pa_nil))))
        pss_never
        pss_nil)
      (pss_cons (ps_if (pt_cmp (pc_isN (pv 1)))
        (pss_one (ps_ret (pe_cmp (pc_isN (pv 0)))))
        pss_nil)
      (pss_cons (ps_if (pt_val (pe_callB call_isi (by rfl) T.isinstance (by decide +kernel) (pa_cons (pv 1) (pa_cons (pe_bltn (v := .ty "bool") (u := .type "bool") (by rfl) T.bool (by decide +kernel) rfl) pa_nil))))
        (pss_one (ps_ret (pe_and (pe_callB call_isi (by rfl) T.isinstance (by decide +kernel) (pa_cons (pv 0) (pa_cons (pe_bltn (v := .ty "bool") (u := .type "bool") (by rfl) T.bool (by decide +kernel) rfl) pa_nil))) (pe_one (pe_cmpR op_eq (pv 0) (pv 1) (nomark _))))))
        pss_nil)
      (pss_cons (ps_if (pt_val (pe_callB call_isi (by rfl) T.isinstance (by decide +kernel) (pa_cons (pv 1) (pa_cons (pe_bltn (v := .ty "str") (u := .type "str") (by rfl) T.str (by decide +kernel) rfl) pa_nil))))
        (pss_one (ps_ret (pe_and (pe_callB call_isi (by rfl) T.isinstance (by decide +kernel) (pa_cons (pv 0) (pa_cons (pe_bltn (v := .ty "str") (u := .type "str") (by rfl) T.str (by decide +kernel) rfl) pa_nil))) (pe_one (pe_cmpR op_eq (pv 0) (pv 1) (nomark _))))))
        pss_nil)
      (pss_one (ps_ret (pe_and (pe_callB call_isi (by rfl) T.isinstance (by decide +kernel) (pa_cons (pv 0) (pa_cons (pe_bltn (v := .ty "int") (u := .type "int") (by rfl) T.int (by decide +kernel) rfl) pa_nil))) (pe_and (pe_not (pe_callB call_isi (by rfl) T.isinstance (by decide +kernel) (pa_cons (pv 0) (pa_cons (pe_bltn (v := .ty "bool") (u := .type "bool") (by rfl) T.bool (by decide +kernel) rfl) pa_nil)))) (pe_one (pe_cmpR op_eq (pv 0) (pv 1) (nomark _))))))))))), ?_⟩
    obtain ⟨hv, k⟩ := h
    rcases hv with ⟨n, rfl⟩ | ⟨t, rfl⟩
    · refine ⟨_, rfl, by show 2 ≤ sizeLine; decide, fun tp htp => ?_⟩
      have k' := fun H' s => k H' ((Same.new (o := .tup [.ty "tuple", .ty "list"]) htp).trans s)
      refine ⟨_, _, _, _, _, false, rfl, upd_same, .cons (.ty _) (.cons (.ty _) .nil), .base (.int _), kit_no2 (by decide +kernel) (by decide +kernel), _, rfl, ?_⟩
      generalize upd H tp (.tup [.ty "tuple", .ty "list"]) = H1 at k' ⊢
      refine iteF ⟨_, rfl, _, rfl, iteF ?_⟩
      refine ⟨_, rfl, _, _, _, _, _, rfl, .ty _, .base (.int _), kit_ty (r := false) (by decide +kernel), _, rfl, iteF ?_⟩
      refine ⟨_, rfl, _, _, _, _, _, rfl, .ty _, .base (.int _), kit_ty (r := false) (by decide +kernel), _, rfl, iteF ?_⟩
      refine ⟨_, rfl, _, _, _, _, _, rfl, .ty _, .base (.int _), kit_ty (r := true) (by decide +kernel), _, rfl, iteT ?_⟩
      refine ⟨_, rfl, _, _, _, _, _, rfl, .ty _, .base (.int _), kit_ty (r := false) (by decide +kernel), _, rfl, _, rfl, iteT ?_⟩
      refine ⟨_, rfl, _, rfl, rfl, ?_⟩
      rw [decide_eq_true rfl]
      exact k' _ (Same.refl _)
    · refine ⟨_, rfl, by show 2 ≤ sizeLine; decide, fun tp htp => ?_⟩
      have k' := fun H' s => k H' ((Same.new (o := .tup [.ty "tuple", .ty "list"]) htp).trans s)
      refine ⟨_, _, _, _, _, false, rfl, upd_same, .cons (.ty _) (.cons (.ty _) .nil), .base (.str _), kit_no2 (by decide +kernel) (by decide +kernel), _, rfl, ?_⟩
      generalize upd H tp (.tup [.ty "tuple", .ty "list"]) = H1 at k' ⊢
      refine iteF ⟨_, rfl, _, rfl, iteF ?_⟩
      refine ⟨_, rfl, _, _, _, _, _, rfl, .ty _, .base (.str _), kit_ty (r := false) (by decide +kernel), _, rfl, iteF ?_⟩
      refine ⟨_, rfl, _, _, _, _, _, rfl, .ty _, .base (.str _), kit_ty (r := true) (by decide +kernel), _, rfl, iteT ?_⟩
      refine ⟨_, rfl, _, _, _, _, _, rfl, .ty _, .base (.str _), kit_ty (r := true) (by decide +kernel), _, rfl, iteT ?_⟩
      refine ⟨_, rfl, _, rfl, rfl, ?_⟩
      rw [decide_eq_true rfl]
      exact k' _ (Same.refl _)
end
def spSame2 : Sp := fun vs H Q _ => ∃ (p q : Addr) (R : List Nat), vs = [.ref p, .ref q] ∧ H p = some (.tup (ivs R)) ∧ H q = some (.tup (ivs R)) ∧ R.length ≤ 1000 ∧ ∀ H', Same H H' → Q (.bl true) H'
section
variable {P : Program} {w : World} {K : PySem.W.Frag} {mg : Str → Option Value} {base : Heap}
theorem ok_same2 {f : Addr} {fd : FuncData} (F : Fun K "_law_same" "_law_same" sSame f fd) (T : Gb K mg) (D_law_same : Df P w K mg base "_law_same" ["_law_told", "_law_due"] 1 spSame1) : FnOk P w K mg base CX0 2 f fd ["_law_told", "_law_due"] spSame2 := by
  refine F.ok scSame (fun vs H Q E h => ?_) (fun cdv A outer s H vs Q E hr h => ?_)
  · obtain ⟨_, _, _, rfl, _⟩ := h
    rfl
  · obtain ⟨p, q, R, rfl, hp, hq, hlen, k⟩ := h
    refine ⟨_, (pss_cons (ps_if (pt_val (pe_callB call_isiT (by rfl) T.isinstance (by decide +kernel) (pa_cons (pv 1) (pa_cons (pe_tup (pa_cons (pe_bltn (v := .ty "tuple") (u := .type "tuple") (by rfl) T.tuple (by decide +kernel) rfl) (pa_cons (pe_bltn (v := .ty "list") (u := .type "list") (by rfl) T.list (by decide +kernel) rfl) pa_nil))) pa_nil))))
        (pss_cons (ps_if (PW.pt (pw_or (pt_not (pt_val (pe_callB call_isiT (by rfl) T.isinstance (by decide +kernel) (pa_cons (pv 0) (pa_cons (pe_tup (pa_cons (pe_bltn (v := .ty "tuple") (u := .type "tuple") (by rfl) T.tuple (by decide +kernel) rfl) (pa_cons (pe_bltn (v := .ty "list") (u := .type "list") (by rfl) T.list (by decide +kernel) rfl) pa_nil))) pa_nil))))) (pw_or1 (pt_cmpR op_ne (pe_callB call_isi (by rfl) T.isinstance (by decide +kernel) (pa_cons (pv 0) (pa_cons (pe_bltn (v := .ty "list") (u := .type "list") (by rfl) T.list (by decide +kernel) rfl) pa_nil))) (pe_callB call_isi (by rfl) T.isinstance (by decide +kernel) (pa_cons (pv 1) (pa_cons (pe_bltn (v := .ty "list") (u := .type "list") (by rfl) T.list (by decide +kernel) rfl) pa_nil))) (nomark _)))))
            (pss_one (ps_ret pe_bl))
            pss_nil)
          (pss_cons (ps_if (pt_cmpR op_ne (pe_callB call_len_seq (by rfl) T.len PySem.boot_len (pa_cons (pv 0) pa_nil)) (pe_callB call_len_seq (by rfl) T.len PySem.boot_len (pa_cons (pv 1) pa_nil)) (nomark _))
            (pss_one (ps_ret pe_bl))
            pss_nil)
          (pss_cons (ps_for PassesOwn.never rfl (pi_range1 (by rfl) T.range (pa_cons (pe_callB call_len_seq (by rfl) T.len PySem.boot_len (pa_cons (pv 1) pa_nil)) pa_nil)) (pg_name (i := 2) scSame.nd rfl (Or.inl rfl))
            (pss_one (ps_if (pt_not (pt_val (pe_df D_law_same (hr.mono (by decide)) (pa_cons (pe_ix ix_tup (pv 0) (pv 2) (fun _ _ => rfl)) (pa_cons (pe_ix ix_tup (pv 1) (pv 2) (fun _ _ => rfl)) pa_nil)))))
                (pss_one (ps_ret pe_bl))
                pss_nil)))
          (pss_one (ps_ret pe_bl)))))
        pss_nil)
      (pss_cons (ps_if (pt_cmp (pc_isN (pv 1)))
        (pss_one (ps_ret (pe_cmp (pc_isN (pv 0)))))
        pss_nil)
      (pss_cons (ps_if (pt_val (pe_callB call_isi (by rfl) T.isinstance (by decide +kernel) (pa_cons (pv 1) (pa_cons (pe_bltn (v := .ty "bool") (u := .type "bool") (by rfl) T.bool (by decide +kernel) rfl) pa_nil))))
        (pss_one (ps_ret (pe_and (pe_callB call_isi (by rfl) T.isinstance (by decide +kernel) (pa_cons (pv 0) (pa_cons (pe_bltn (v := .ty "bool") (u := .type "bool") (by rfl) T.bool (by decide +kernel) rfl) pa_nil))) (pe_one (pe_cmpR op_eq (pv 0) (pv 1) (nomark _))))))
        pss_nil)
      (pss_cons (ps_if (pt_val (pe_callB call_isi (by rfl) T.isinstance (by decide +kernel) (pa_cons (pv 1) (pa_cons (pe_bltn (v := .ty "str") (u := .type "str") (by rfl) T.str (by decide +kernel) rfl) pa_nil))))
        (pss_one (ps_ret (pe_and (pe_callB call_isi (by rfl) T.isinstance (by decide +kernel) (pa_cons (pv 0) (pa_cons (pe_bltn (v := .ty "str") (u := .type "str") (by rfl) T.str (by decide +kernel) rfl) pa_nil))) (pe_one (pe_cmpR op_eq (pv 0) (pv 1) (nomark _))))))
        pss_nil)
      (pss_one (ps_ret (pe_and (pe_callB call_isi (by rfl) T.isinstance (by decide +kernel) (pa_cons (pv 0) (pa_cons (pe_bltn (v := .ty "int") (u := .type "int") (by rfl) T.int (by decide +kernel) rfl) pa_nil))) (pe_and (pe_not (pe_callB call_isi (by rfl) T.isinstance (by decide +kernel) (pa_cons (pv 0) (pa_cons (pe_bltn (v := .ty "bool") (u := .type "bool") (by rfl) T.bool (by decide +kernel) rfl) pa_nil)))) (pe_one (pe_cmpR op_eq (pv 0) (pv 1) (nomark _))))))))))), ?_⟩
    refine ⟨_, rfl, by show 2 ≤ sizeLine; decide, fun tp htp => ?_⟩
    have s1 : Same H (upd H tp (.tup [.ty "tuple", .ty "list"])) := Same.new htp
    have t1 : (upd H tp (.tup [.ty "tuple", .ty "list"])) tp = some (.tup [.ty "tuple", .ty "list"]) := upd_same
    generalize upd H tp (.tup [.ty "tuple", .ty "list"]) = H1 at s1 t1 ⊢
    refine ⟨_, _, _, _, _, true, rfl, t1, .cons (.ty _) (.cons (.ty _) .nil), .base (.tup (s1 _ _ hq)), kit_tup, _, rfl, iteT ?_⟩
    refine ⟨_, rfl, by show 2 ≤ sizeLine; decide, fun tp2 htp2 => ?_⟩
    have s2 : Same H (upd H1 tp2 (.tup [.ty "tuple", .ty "list"])) := s1.trans (Same.new htp2)
    have t2 : (upd H1 tp2 (.tup [.ty "tuple", .ty "list"])) tp2 = some (.tup [.ty "tuple", .ty "list"]) := upd_same
    generalize upd H1 tp2 (.tup [.ty "tuple", .ty "list"]) = H2 at s2 t2 ⊢
    refine ⟨_, _, _, _, _, true, rfl, t2, .cons (.ty _) (.cons (.ty _) .nil), .base (.tup (s2 _ _ hp)), kit_tup, _, rfl, iteF ?_⟩
    refine ⟨_, rfl, _, _, _, _, _, rfl, .ty _, .base (.tup (s2 _ _ hp)), kit_ty (r := false) (by decide +kernel), _, rfl, _, _, _, _, _, rfl, .ty _, .base (.tup (s2 _ _ hq)), kit_ty (r := false) (by decide +kernel), rfl, _, rfl, ?_⟩
    refine itF rfl ?_
    refine ⟨_, rfl, p, _, rfl, .inr (SqT.of (s2 _ _ hp)), _, rfl, q, _, rfl, .inr (SqT.of (s2 _ _ hq)), rfl, _, rfl, ?_⟩
    refine itF (by rw [decide_eq_true rfl]; rfl) ?_
    refine ⟨_, rfl, q, _, rfl, .inr (SqT.of (s2 _ _ hq)), _, rfl, by omega, by rw [ivs_len]; omega, for_range (lo := 0) (n := (((ivs R).length : Nat) : Int).toNat) (fun i σ H' => ∃ v, σ = [some (.ref p), some (.ref q), v] ∧ Same H H') ⟨_, rfl, s2⟩ ?_ ?_⟩
    · rintro i σ H3 hi ⟨v, rfl, s3⟩
      have hi1 : i < R.length := by rw [ivs_len] at hi; omega
      have g : (ivs R)[i]? = some (nV R[i]) := ivs_get (List.getElem?_eq_getElem hi1)
      refine ⟨_, rfl, _, rfl, p, _, _, _, rfl, rfl, SqT.of (s3 _ _ hp), at_of (j := i) (by omega) g, _, rfl, _, rfl, q, _, _, _, rfl, rfl, SqT.of (s3 _ _ hq), at_of (j := i) (by omega) g, .inl ⟨_, rfl⟩, fun H4 s4 => ⟨_, rfl, iteF ⟨_, rfl, s3.trans s4⟩⟩⟩
    · rintro σ H3 ⟨v, rfl, s3⟩
      exact k H3 s3
theorem FnOk.either {k : Nat} {f : Addr} {fd : FuncData} {ps : List Str} {sp sp' : Sp} (F : FnOk P w K mg base CX0 k f fd ps sp) (G : FnOk P w K mg base CX0 k f fd ps sp') : FnOk P w K mg base CX0 k f fd ps (fun vs H Q E => sp vs H Q E ∨ sp' vs H Q E) :=
  ⟨fun vs H Q E h => h.elim (F.len vs H Q E) (G.len vs H Q E), fun A outer s H args us vs Q E hr he hb hv h => h.elim (F.run A outer s H args us vs Q E hr he hb hv) (G.run A outer s H args us vs Q E hr he hb hv)⟩
end
def spSame : Sp := fun vs H Q E => spSame1 vs H Q E ∨ spSame2 vs H Q E
end Rj

set_option Elab.async false
set_option linter.all false
set_option maxRecDepth 100000
namespace Rj
open PySem L2 PyProof.Rows
/-! ### shown -/
def spShown (CJ C : Addr) : Sp := fun vs H Q _ => ∃ (F : Hp) (p pl a : Addr) (as : List Addr) (al : List Nat) (ps : List (Nat × Nat)) (L : List Nat) (D U : List Edit), vs = [.ref p, .ref pl, .str (tS al), .str (tx al L)] ∧ PW C F H p a al ps L D U ∧ JAt CJ F a al ps ∧
  H pl = some (.lst (as.map V.ref)) ∧ PairsAt H as ps ∧ ps.length ≤ 1000 ∧ Wf (prf ps) al.length ps.length ∧ Al al ∧ Ls al.length L ∧ L.length ≤ 500 ∧ ∀ H', Same H H' → Q (.bl true) H'
theorem cutP_len {b : Nat} {ps : List (Nat × Nat)} (L : List Nat) : (cutP b ps L).length ≤ L.length := stR_len _
theorem scShown : FnScope ["_law_page", "_law_pairs_here", "_law_alphabet_here", "_law_text_here"] ["_law_page", "_law_pairs_here", "_law_alphabet_here", "_law_text_here"] (defScope sShown) := ⟨rfl, rfl, rfl, by decide +kernel, rfl, by decide +kernel, by decide +kernel⟩
section
variable {P : Program} {w : World} {K : PySem.W.Frag} {mg : Str → Option Value} {base : Heap}
theorem ok_shown {CJ C f : Addr} {fd : FuncData} (F : Fun K "_law_shown" "_law_shown" sShown f fd) (T : Gb K mg) (TP : TP K C) (D_law_same : Df P w K mg base "_law_same" ["_law_told", "_law_due"] 2 spSame) (D_law_cut : Df P w K mg base "_law_cut" ["_law_pairs_here", "_law_alphabet_here", "_law_text_here"] 2 spLCut)
    (Dcontent : Mt P w K mg base C "content" ["self"] 1 (spContent C)) (Dcut_row : Mt P w K mg base C "cut_row" ["self"] 6 (spCutRow CJ C)) (Dlen : Mt P w K mg base C "__len__" ["self"] 1 (spPLen C)) :
    FnOk P w K mg base CX0 7 f fd ["_law_page", "_law_pairs_here", "_law_alphabet_here", "_law_text_here"] (spShown CJ C) := by
  refine F.ok scShown (fun vs H Q E h => ?_) (fun cdv A outer s H vs Q E hr h => ?_)
  · obtain ⟨_, _, _, _, _, _, _, _, _, _, rfl, _⟩ := h
    rfl
  · obtain ⟨G, p, pl, a, as, al, ps, L, D, U, rfl, W0, J, hp, hps, hn, wf, hA, hL, hl, k⟩ := h
    obtain ⟨le, ld, lu, ge, gd, gu, PF0⟩ := W0.at_
    obtain ⟨dx, td, tu, h1, _⟩ := PF0.ex
    obtain ⟨fl, fdl, hm, hb, Fl⟩ := Dlen.ex
    refine ⟨_, (pss_cons (ps_if (PW.pt (pw_or (pt_not (pt_val (pe_df D_law_same (hr.mono (by decide)) (pa_cons (pe_mt0 Dcontent TP.cl (hr.mono (by decide)) (pv 0)) (pa_cons (pv 3) pa_nil))))) (pw_or1 (pt_not (pt_val (pe_df D_law_same (hr.mono (by decide)) (pa_cons (pe_callB (call_lenO hm.at_ hm.fn Fl hb (hr.mono (by decide))) (by rfl) T.len PySem.boot_len (pa_cons (pv 0) pa_nil)) (pa_cons (pe_callB call_len_str (by rfl) T.len PySem.boot_len (pa_cons (pv 3) pa_nil)) pa_nil))))))))
        (pss_one (ps_ret pe_bl))
        pss_nil)
      (pss_one (ps_ret (pe_df D_law_same (hr.mono (by decide)) (pa_cons (pe_mt0 Dcut_row TP.cl (hr.mono (by decide)) (pv 0)) (pa_cons (pe_callTy call_tuple_of (by rfl) T.tuple (by decide +kernel) (pa_cons (pe_df D_law_cut (hr.mono (by decide)) (pa_cons (pv 1) (pa_cons (pv 2) (pa_cons (pv 3) pa_nil)))) pa_nil)) pa_nil)))))), ?_⟩
    refine ⟨_, rfl, p, dx, _, rfl, h1, pf_no _ _ _ _ _ (by decide +kernel), ?_⟩
    refine ⟨G, p, a, al, ps, L, D, U, rfl, W0, _, rfl, .inl ⟨.inr ⟨_, rfl⟩, fun H1 s1 => ⟨_, rfl, ?_⟩⟩⟩
    refine iteF ?_
    have W1 := W0.on s1
    refine ⟨_, rfl, p, dx, _, rfl, s1 _ _ h1, ?_⟩
    refine ⟨G, p, a, al, ps, L, D, U, rfl, W1, hl, _, by omega, by omega, rfl, ?_⟩
    refine ⟨_, rfl, _, rfl, line_big (by rw [tx_len]; omega), ?_⟩
    rw [tx_len]
    refine .inl ⟨.inl ⟨_, rfl⟩, fun H2 s2 => ⟨_, rfl, iteF ?_⟩⟩
    have s12 := s1.trans s2
    have W2 := W0.on s12
    refine ⟨_, rfl, p, dx, _, rfl, s12 _ _ h1, pf_no _ _ _ _ _ (by decide +kernel), ?_⟩
    refine ⟨G, p, a, al, ps, L, D, U, rfl, W2, J, hL, hl, fun H3 q s3 hq => ?_⟩
    have s13 := s12.trans s3
    refine ⟨_, rfl, _, rfl, _, rfl, pl, as, al, ps, L, rfl, s13 _ _ hp, hps.same s13, hn, wf, hA, hL, by omega, fun H4 q2 s4 _ hq2 => ?_⟩
    refine ⟨q2, _, rfl, .inl ⟨SqL.of hq2, fun q3 hq3 => ?_⟩⟩
    have s5 := Same.new (o := .tup (ivs (cutP al.length ps L))) hq3
    exact .inr ⟨q, q3, _, rfl, (s4.trans s5) _ _ hq, upd_same, by have := cutP_len (b := al.length) (ps := ps) L; omega, fun H5 s6 => k H5 (s13.trans (s4.trans (s5.trans s6)))⟩
end
end Rj

set_option Elab.async false
set_option linter.all false
set_option maxRecDepth 100000
namespace Rj
open PySem L2 PyProof.Rows
/-! ### the law's alphabet -/
/-- the codes of the law's signs: all that print but one -/
def sgn : List Nat := List.range' 32 5 ++ List.range' 38 89
theorem sgn_len : sgn.length = 94 := by decide +kernel
theorem sgn_up : sgn.Pairwise (· < ·) := by decide +kernel
theorem sgn_in : ∀ c ∈ sgn, 32 ≤ c ∧ c ≤ 126 := by decide +kernel
/-- an alphabet of chosen places -/
def chosen (ns : List Nat) : List Nat := (ns.take 30).map fun n => sgn.getD n 0
theorem chosen_ok {ns : List Nat} (h0 : ns ≠ []) (up : ns.Pairwise (· < ·)) (lt : ∀ n ∈ ns, n < 94) : Al (chosen ns) := by
  have hlen : (chosen ns).length = min 30 ns.length := by simp [chosen]
  have hpos := List.length_pos_iff.mpr h0
  refine ⟨by omega, by omega, fun c hc => ?_, ?_⟩
  · obtain ⟨n, hn, rfl⟩ := List.mem_map.mp hc
    have : n < sgn.length := by rw [sgn_len]; exact lt n (List.mem_of_mem_take hn)
    rw [List.getD_eq_getElem?_getD, List.getElem?_eq_getElem this]
    exact sgn_in _ (List.getElem_mem this)
  · refine List.pairwise_map.mpr ?_
    have h1 : (ns.take 30).Pairwise (· < ·) := up.sublist (List.take_sublist _ _)
    refine h1.imp_of_mem fun {a b} ha hb hab => ?_
    have ha' : a < sgn.length := by rw [sgn_len]; exact lt a (List.mem_of_mem_take ha)
    have hb' : b < sgn.length := by rw [sgn_len]; exact lt b (List.mem_of_mem_take hb)
    rw [List.getD_eq_getElem?_getD, List.getElem?_eq_getElem ha', List.getD_eq_getElem?_getD, List.getElem?_eq_getElem hb']
    exact List.pairwise_iff_getElem.mp sgn_up a b ha' hb' hab
theorem join_signs : ∀ cs : List Nat, Txt.join ("" : Str) (cs.map fun c => tS [c]) = tS cs := fun cs => by
  show Builtin.Str.glued _ _ = _
  rw [StrLaws.glued_eq_join]
  have e0 : ("" : Str) = tS [] := by decide +kernel
  rw [e0]
  induction cs with
  | nil => rfl
  | cons c t ih =>
    cases t with
    | nil => rfl
    | cons d t =>
      show tS [c] ++ tS [] ++ Str.join (tS []) ((d :: t).map fun c => tS [c]) = _
      rw [ih, tS_app, tS_app]; rfl
/-- keys put into a dict of numbers -/
def KsAt (kvs : List (Key × V)) (ks : List Nat) : Prop := kvs.map (·.1) = ks.map fun n : Nat => (.inl (n : Int) : Key)
theorem KsAt.put {kvs : List (Key × V)} {ks : List Nat} (h : KsAt kvs ks) (n : Nat) (v : V) : KsAt (putK kvs (.inl (n : Int)) v) (if n ∈ ks then ks else ks ++ [n]) := by
  have hany : (kvs.any fun kv => decide (kv.1 = (.inl (n : Int) : Key))) = true ↔ n ∈ ks := by
    rw [List.any_eq_true]
    constructor
    · rintro ⟨kv, hkv, hd⟩
      have h1 : kv.1 ∈ kvs.map (·.1) := List.mem_map.mpr ⟨kv, hkv, rfl⟩
      rw [h, of_decide_eq_true hd] at h1
      obtain ⟨m, hm, e⟩ := List.mem_map.mp h1
      injection e with e
      have : m = n := by omega
      rw [← this]; exact hm
    · intro hn
      have h1 : (.inl (n : Int) : Key) ∈ kvs.map (·.1) := by rw [h]; exact List.mem_map.mpr ⟨n, hn, rfl⟩
      obtain ⟨kv, hkv, e⟩ := List.mem_map.mp h1
      exact ⟨kv, hkv, decide_eq_true e⟩
  unfold putK
  by_cases hn : n ∈ ks
  · rw [if_pos (hany.mpr hn), if_pos hn]
    show (kvs.map _).map _ = _
    rw [List.map_map, ← h]
    refine List.map_congr_left fun kv _ => ?_
    show (if kv.1 = _ then (kv.1, v) else kv).1 = kv.1
    split <;> rfl
  · rw [if_neg (fun q => hn (hany.mp q)), if_neg hn]
    show (kvs ++ _).map _ = _
    rw [List.map_append, h, List.map_append]; rfl
theorem sorted_nats {ks : List Nat} (nd : ks.Nodup) {ys : List Int} (hp : ys.Perm (ks.map fun n : Nat => (n : Int))) (hs : ys.Pairwise (· ≤ ·)) : ∃ ns : List Nat, ys = ns.map (fun n : Nat => (n : Int)) ∧ ns.Perm ks ∧ ns.Pairwise (· < ·) := by
  have hy : ys = (ys.map Int.toNat).map (fun n : Nat => (n : Int)) := by
    rw [List.map_map]
    conv => lhs; rw [← List.map_id ys]
    refine List.map_congr_left fun y hy => ?_
    obtain ⟨n, _, rfl⟩ := List.mem_map.mp (hp.subset hy)
    rfl
  have hp2 : (ys.map Int.toNat).Perm ks := by
    have := hp.map Int.toNat
    rw [List.map_map] at this
    simpa [Function.comp_def] using this
  refine ⟨ys.map Int.toNat, hy, hp2, ?_⟩
  have nd2 : (ys.map Int.toNat).Nodup := hp2.nodup_iff.mpr nd
  have hle : (ys.map Int.toNat).Pairwise (· ≤ ·) := by
    refine List.pairwise_map.mpr (hs.imp fun h => ?_)
    omega
  exact List.pairwise_iff_getElem.mpr fun i j hi hj hij => by
    have h1 := List.pairwise_iff_getElem.mp hle i j hi hj hij
    have h2 := List.pairwise_iff_getElem.mp nd2 i j hi hj hij
    omega
def spLAl : Sp := fun vs H Q _ => ∃ (a : Addr) (ns : List Int), vs = [.ref a] ∧ H a = some (.lst (zvs ns)) ∧ ns.length ≤ 10000 ∧
  ∀ H' al ns', Al al → Kp [a] H H' → H' a = some (.lst (zvs ns')) → ns'.length ≤ 10000 → Q (.str (tS al)) H'
theorem Kp.set {S : List Addr} {H H1 : Hp} {p : Addr} {o : HO} (k : Kp S H H1) (h : p ∈ S) : Kp S H (upd H1 p o) := k.put (.inl h)
theorem scLAl : FnScope ["_law_pool_here", "_law_signs", "_law_chosen", "_law_k"] ["_law_pool_here"] (defScope sLAl) := ⟨rfl, rfl, rfl, by decide +kernel, rfl, by decide +kernel, by decide +kernel⟩
section
variable {P : Program} {w : World} {K : PySem.W.Frag} {mg : Str → Option Value} {base : Heap}
theorem ok_lal {f : Addr} {fd : FuncData} (F : Fun K "_law_alphabet" "_law_alphabet" sLAl f fd) (T : Gb K mg) (D_law_draw : Df P w K mg base "_law_draw" ["_law_pool_here", "_law_many"] 1 spDraw) : FnOk P w K mg base CX0 2 f fd ["_law_pool_here"] spLAl := by
  refine F.ok scLAl (fun vs H Q E h => ?_) (fun cdv A outer s H vs Q E hr h => ?_)
  · obtain ⟨_, _, rfl, _⟩ := h
    rfl
  · obtain ⟨a, ns, rfl, ha, hlen, k⟩ := h
    have hu := hu_of hr
    refine ⟨_, (pss_cons (ps_set (i := 1) scLAl.nd rfl (Or.inr rfl) pe_str)
      (pss_cons (ps_set (i := 1) scLAl.nd rfl (Or.inr rfl) (pe_op op_add_str (pv 1) pe_str))
      (pss_cons (ps_set (i := 2) scLAl.nd rfl (Or.inl rfl) pe_dnewK)
      (pss_cons (ps_for PassesOwn.never rfl (pi_range1 (by rfl) T.range (pa_cons (pe_ix ix_list (pe_lst (pa_cons pe_int (pa_cons pe_int (pa_cons pe_int (pa_cons pe_int (pa_cons pe_int (pa_cons pe_int (pa_cons pe_int (pa_cons pe_int (pa_cons pe_int (pa_cons pe_int (pa_cons pe_int (pa_cons pe_int pa_nil))))))))))))) (pe_df D_law_draw (hr.mono (by decide)) (pa_cons (pv 0) (pa_cons pe_int pa_nil))) (fun _ _ => rfl)) pa_nil)) (pg_name (i := 3) scLAl.nd rfl (Or.inl rfl))
        (pss_one (ps_dput hu (pv 2) (pe_df D_law_draw (hr.mono (by decide)) (pa_cons (pv 0) (pa_cons pe_int pa_nil))) pe_bl rfl)))
      (pss_one (ps_ret (pe_join pe_str (pe_lc (own := [("_law_k", 3)]) (g := gName 3) (by rfl) scLAl.nd (pi_list (pe_slice sl_list (pe_callB (call_sortedDI rfl) (by rfl) T.sorted (by decide +kernel) (pa_cons (pv 2) pa_nil)) po_none (po_some pe_int))) (blkOk_by (own := [("_law_k", 3)]) (N := ["_law_pool_here", "_law_signs", "_law_chosen", "_law_k"]) (sc := defScope sLAl) (by decide +kernel)) (fun _ _ _ _ _ => pg_name (i := 3) scLAl.nd rfl (Or.inl rfl)) (fun _ _ _ _ _ => pts_nil) (fun _ _ _ _ _ => by exact (pe_ix ix_str (pv 1) (pv 3) (fun _ _ => rfl))))))))))), ?_⟩
    refine ⟨_, rfl, _, _, rfl, rfl, (by decide +kernel), ?_⟩
    generalize hz : (_ ++ _ : Str) = z
    have hz' : z = tS sgn := by rw [← hz]; decide +kernel
    clear hz
    subst hz'
    refine fun d hd => ?_
    have nad : a ≠ d := ne_of_none ha hd
    have kp1 : Kp [a] H (upd H d (.dK [])) := (Same.new hd).kp _
    have d1 : (upd H d (.dK [])) d = some (.dK []) := upd_same
    have a1 : (upd H d (.dK [])) a = some (.lst (zvs ns)) := by rw [upd_ne nad]; exact ha
    generalize upd H d (.dK []) = H1 at kp1 d1 a1
    refine ⟨by show 12 ≤ sizeLine; decide, fun q hq => ?_⟩
    have naq : a ≠ q := ne_of_none a1 hq
    have ndq : d ≠ q := ne_of_none d1 hq
    refine ⟨_, rfl, a, ns, 12, rfl, by rw [upd_ne naq]; exact a1, by decide, by omega, fun ns1 r hn1 hr12 => ?_⟩
    generalize hH2 : upd (upd H1 q _) a _ = H2
    have q2 : H2 q = some (.lst (ivs [1, 2, 2, 3, 3, 4, 5, 9, 2, 3, 4, 36])) := by rw [← hH2, upd_ne naq.symm, upd_same]; rfl
    have a2 : H2 a = some (.lst (zvs ns1)) := by rw [← hH2, upd_same]
    have d2 : H2 d = some (.dK []) := by rw [← hH2, upd_ne nad.symm, upd_ne ndq]; exact d1
    have kp2 : Kp [a] H H2 := by
      rw [← hH2]
      exact (kp1.trans ((Same.new hq).kp _)).set (by simp)
    clear hH2
    have hr' : r < ([1, 2, 2, 3, 3, 4, 5, 9, 2, 3, 4, 36] : List Nat).length := hr12
    have hb := (show ∀ w ∈ ([1, 2, 2, 3, 3, 4, 5, 9, 2, 3, 4, 36] : List Nat), 1 ≤ w ∧ w ≤ 36 by decide) _ (List.getElem_mem hr')
    have hg := ivs_get (List.getElem?_eq_getElem hr')
    generalize ([1, 2, 2, 3, 3, 4, 5, 9, 2, 3, 4, 36] : List Nat)[r] = n at hb hg
    refine ⟨q, _, _, _, rfl, rfl, SqL.of q2, at_of (j := r) rfl hg, n, rfl, by omega, by omega, for_range (lo := 0) (n := (n : Int).toNat) (fun i σ H' => ∃ (v : Option V) (kvs : List (Key × V)) (ks : List Nat) (ns' : List Int), σ = [some (.ref a), some (.str (tS sgn)), some (.ref d), v] ∧ Kp [a] H H' ∧ H' d = some (.dK kvs) ∧ KsAt kvs ks ∧ ks.Nodup ∧ (∀ n ∈ ks, n < 94) ∧ ks.length ≤ i ∧ (0 < i → ks ≠ []) ∧ H' a = some (.lst (zvs ns')) ∧ ns'.length ≤ 10000)
      ⟨_, [], [], ns1, rfl, kp2, d2, rfl, List.nodup_nil, (fun _ h => by cases h), Nat.le_refl _, fun h => absurd h (Nat.lt_irrefl _), a2, by omega⟩ ?_ ?_⟩
    · rintro i σ H3 hi ⟨v, kvs, ks, ns3, rfl, kp3, d3, hks, nd, lt, hl, _, a3, hn3⟩
      have hi36 : i < 36 := by omega
      refine ⟨_, rfl, _, rfl, a, ns3, 94, rfl, a3, by decide, by omega, fun ns4 r4 hn4 hr4 => ?_⟩
      have hkl : kvs.length = ks.length := by have := congrArg List.length hks; simpa using this
      refine ⟨d, _, rfl, DPut.k (kvs := kvs) (k := .inl (r4 : Int)) (by rw [upd_ne nad.symm]; exact d3) (by rw [hkl]; exact line_big' (by omega)), ?_⟩
      refine ⟨_, _, _, ns4, rfl, (kp3.set (by simp)).put (.inr hd), upd_same, hks.put r4 _, ?_, ?_, ?_, ?_, by rw [upd_ne nad, upd_same], by omega⟩
      · split
        · exact nd
        · rename_i hm
          refine List.nodup_append.mpr ⟨nd, by simp, ?_⟩
          intro x hx y hy e
          have : y = r4 := by simpa using hy
          rw [e, this] at hx; exact hm hx
      · split
        · exact lt
        · intro x hx
          rcases List.mem_append.mp hx with h | h
          · exact lt x h
          · have : x = r4 := by simpa using h
            omega
      · split
        · omega
        · simp; omega
      · intro _
        split
        · rename_i hm; exact fun e => by rw [e] at hm; cases hm
        · simp
    · rintro σ H3 ⟨v, kvs, ks, ns3, rfl, kp3, d3, hks, nd, lt, hl, h0, a3, hn3⟩
      have hn0 : ks ≠ [] := h0 (by omega)
      have hl36 : ks.length ≤ 36 := by omega
      refine ⟨⟨_, rfl⟩, _, rfl, d, kvs, ks.map (fun n : Nat => (n : Int)), rfl, .inl d3, by rw [hks, List.map_map]; rfl, by rw [List.length_map]; omega, fun ys p hperm hsort hp => ?_⟩
      obtain ⟨ms, rfl, hpm, hup⟩ := sorted_nats nd hperm hsort
      have hlm : ms.length = ks.length := hpm.length_eq
      have ltm : ∀ n ∈ ms, n < 94 := fun n hn => lt n (hpm.subset hn)
      have hm0 : ms ≠ [] := fun e => hn0 (List.length_eq_zero_iff.mp (by rw [← hlm, e]; rfl))
      have e1 : (ms.map (fun n : Nat => (n : Int))).map V.int = ivs ms := by rw [List.map_map]; rfl
      rw [e1]
      refine ⟨_, rfl, p, _, rfl, SqL.of upd_same, fun q5 hq5 => ?_⟩
      have e2 : cutV (ivs ms) none (some 30) = ivs (ms.take 30) := by
        rw [show (30 : Int) = ((30 : Nat) : Int) from rfl, cutV_to]; simp [ivs]
      rw [e2]
      have kp5 : Kp [a] H (upd (upd H3 p (.lst (ivs ms))) q5 (.lst (ivs (ms.take 30)))) := (kp3.trans ((Same.new hp).kp _)).trans ((Same.new hq5).kp _)
      have a5 : (upd (upd H3 p (.lst (ivs ms))) q5 (.lst (ivs (ms.take 30)))) a = some (.lst (zvs ns3)) := (Same.new hq5) _ _ ((Same.new hp) _ _ a3)
      have q55 : (upd (upd H3 p (.lst (ivs ms))) q5 (.lst (ivs (ms.take 30)))) q5 = some (.lst (ivs (ms.take 30))) := upd_same
      generalize upd (upd H3 p (.lst (ivs ms))) q5 (.lst (ivs (ms.take 30))) = H5 at kp5 a5 q55
      refine ⟨q5, rfl, ⟨_, SqL.of q55⟩, fun D hD => lc_it (walk_list (K := K) (a := q5) (xs := ivs (ms.take 30))) (fun i H' => Same H5 H' ∧ H' D = some (.lst (((chosen ms).take i).map fun c => V.str (tS [c])))) ⟨Same.new hD, upd_same⟩ (fun _ _ _ h => (SqL.of (h.1 _ _ q55))) ?_ ?_⟩
      · rintro i x H6 H' hi ⟨s6, l6⟩ ⟨rfl, hx⟩
        rw [ivs_len] at hi
        have hx' : x = nV (ms.take 30)[i] := by
          have := ivs_get (List.getElem?_eq_getElem hi)
          rw [this] at hx; exact (Option.some.inj hx).symm
        subst hx'
        have h94 : (ms.take 30)[i] < sgn.length := by rw [sgn_len]; exact ltm _ (List.mem_of_mem_take (List.getElem_mem hi))
        have hc : (chosen ms)[i]? = some (sgn.getD (ms.take 30)[i] 0) := by
          unfold chosen
          rw [List.getElem?_map, List.getElem?_eq_getElem hi]; rfl
        refine ⟨rfl, tt_yes ?_⟩
        refine ⟨_, rfl, _, rfl, _, _, sgn.getD (ms.take 30)[i] 0, rfl, rfl, by rw [tS_len, sgn_len]; exact line_big (by omega), at_ofN (j := (ms.take 30)[i]) rfl ?_, _, l6, by rw [List.length_map]; exact line_big' (by rw [List.length_take] at hi ⊢; omega), s6.put hD, ?_⟩
        · show sgn[(ms.take 30)[i]]? = _
          rw [List.getD_eq_getElem?_getD, List.getElem?_eq_getElem h94]; rfl
        · rw [upd_same]
          refine congrArg (fun x => some (HO.lst x)) ?_
          rw [List.take_add_one (l := chosen ms), hc, List.map_append]; rfl
      · rintro H6 ⟨s6, l6⟩
        have hcl : (chosen ms).length = (ivs (ms.take 30)).length := by rw [ivs_len]; simp [chosen]
        rw [← hcl, List.take_length] at l6
        refine ⟨_, D, (chosen ms).map (fun c => tS [c]), rfl, rfl, .inl (SqL.of (by rw [List.map_map]; exact l6)), ?_, ?_⟩
        · have e0 : ("" : Str).length = 0 := by decide +kernel
          have e3 : ∀ cs : List Nat, ((cs.map fun c => tS [c]).map fun t : Str => t.length).sum = cs.length := fun cs => by
            induction cs with
            | nil => rfl
            | cons c t ih => rw [List.map_cons, List.map_cons, List.sum_cons, ih, tS_len, List.length_cons, List.length_cons, List.length_nil]; omega
          rw [e3, e0, hcl, ivs_len, List.length_take]; omega
        · show Q (.str (Txt.join ("" : Str) _)) H6
          rw [join_signs]
          exact k H6 (chosen ms) ns3 (chosen_ok hm0 hup ltm) (kp5.trans (s6.kp _)) (s6 _ _ a5) hn3
end
end Rj

set_option Elab.async false
set_option linter.all false
set_option maxRecDepth 100000
namespace Rj
open PySem L2 PyProof.Rows
/-! ### the law's text -/
theorem mul_tx (al : List Nat) (n : Nat) (L : List Nat) : (⟨(List.replicate n (tx al L).cps).foldl (· ++ ·) #[]⟩ : Str) = tx al (List.flatten (List.replicate n L)) := by
  have gen : ∀ (n : Nat) (M : List Nat), (List.replicate n (tx al L).cps).foldl (· ++ ·) (tx al M).cps = (tx al (M ++ (List.replicate n L).flatten)).cps := by
    intro n
    induction n with
    | zero => intro M; simp
    | succ n ih =>
      intro M
      rw [List.replicate_succ, List.foldl_cons]
      have e1 : (tx al M).cps ++ (tx al L).cps = (tx al (M ++ L)).cps := congrArg Str.cps (tx_app al M L)
      rw [e1, ih, List.replicate_succ, List.flatten_cons, List.append_assoc]
  have := gen n []
  rw [List.nil_append] at this
  have h0 : (tx al []).cps = #[] := rfl
  rw [h0] at this
  rw [this]
theorem flat_rep_ls {b n : Nat} {L : List Nat} (h : Ls b L) : Ls b (List.flatten (List.replicate n L)) := fun a ha => by
  obtain ⟨l, hl, hal⟩ := List.mem_flatten.mp ha
  rw [(List.mem_replicate.mp hl).2] at hal
  exact h a hal
theorem flat_rep_len (n : Nat) (L : List Nat) : (List.flatten (List.replicate n L)).length = n * L.length := by simp
/-- letters from the alphabet's i-th on -/
theorem al_tx (al : List Nat) : tS al = tx al (List.range al.length) := by
  rw [tx, cds]
  congr 1
  refine List.ext_getElem (by simp) fun i h1 h2 => ?_
  simp only [List.getElem_map, List.getElem_range]
  rw [List.getD_eq_getElem?_getD, List.getElem?_eq_getElem h1]; rfl
theorem one_tx (al : List Nat) (i : Nat) : tS [al.getD i 0] = tx al [i] := rfl
theorem ls_range (n : Nat) : Ls n (List.range n) := fun a ha => List.mem_range.mp ha
theorem ls_one {n i : Nat} (h : i < n) : Ls n [i] := fun a ha => by
  have : a = i := by simpa using ha
  omega
/-- what a page's or a pair's texts are -/
def TxsAt (al : List Nat) (Ts : List (List Nat)) : Prop := ∀ M ∈ Ts, Ls al.length M ∧ M.length ≤ 100
def tls (al : List Nat) (Ts : List (List Nat)) : List V := Ts.map fun M => V.str (tx al M)
theorem tls_len (al : List Nat) (Ts : List (List Nat)) : (tls al Ts).length = Ts.length := by simp [tls]
def spLText : Sp := fun vs H Q _ => ∃ (a tl : Addr) (ns : List Int) (al : List Nat) (Ts : List (List Nat)) (m : Nat), vs = [.ref a, .str (tS al), .ref tl, nV m] ∧ H a = some (.lst (zvs ns)) ∧ ns.length ≤ 10000 ∧ a ≠ tl ∧
  H tl = some (.lst (tls al Ts)) ∧ Ts ≠ [] ∧ TxsAt al Ts ∧ Al al ∧ m ≤ 40 ∧
  ∀ H' L ns', Ls al.length L → L.length ≤ m → Kp [a] H H' → H' a = some (.lst (zvs ns')) → ns'.length ≤ 10000 → Q (.str (tx al L)) H'
theorem scLText : FnScope ["_law_pool_here", "_law_alphabet_here", "_law_texts", "_law_most", "_law_text_here", "_law_k", "_law_way", "_law_part"] ["_law_pool_here", "_law_alphabet_here", "_law_texts", "_law_most"] (defScope sLText) := ⟨rfl, rfl, rfl, by decide +kernel, rfl, by decide +kernel, by decide +kernel⟩
section
variable {P : Program} {w : World} {K : PySem.W.Frag} {mg : Str → Option Value} {base : Heap}
theorem ok_ltext {f : Addr} {fd : FuncData} (F : Fun K "_law_text" "_law_text" sLText f fd) (T : Gb K mg) (D_law_draw : Df P w K mg base "_law_draw" ["_law_pool_here", "_law_many"] 1 spDraw) : FnOk P w K mg base CX0 2 f fd ["_law_pool_here", "_law_alphabet_here", "_law_texts", "_law_most"] spLText := by
  refine F.ok scLText (fun vs H Q E h => ?_) (fun cdv A outer s H vs Q E hr h => ?_)
  · obtain ⟨_, _, _, _, _, _, rfl, _⟩ := h
    rfl
  · obtain ⟨a, tl, ns, al, Ts, m, rfl, ha, hlen, natl, htl, hT0, hT, hA, hm, k⟩ := h
    have h1 := hA.one
    have h2 := hA.many
    have hl : (tS al).length = al.length := tS_len al
    refine ⟨_, (pss_cons (ps_set (i := 4) scLText.nd rfl (Or.inl rfl) pe_str)
      (pss_cons (ps_for PassesOwn.never rfl (pi_range1 (by rfl) T.range (pa_cons (pe_df D_law_draw (hr.mono (by decide)) (pa_cons (pv 0) (pa_cons (pe_op op_add (pv 3) pe_int) pa_nil))) pa_nil)) (pg_name (i := 5) scLText.nd rfl (Or.inl rfl))
        (pss_one (ps_if (pt_cmpR op_lt (pe_callB call_len_str (by rfl) T.len PySem.boot_len (pa_cons (pv 4) pa_nil)) (pv 3) (nomark _))
            (pss_cons (ps_set (i := 6) scLText.nd rfl (Or.inl rfl) (pe_df D_law_draw (hr.mono (by decide)) (pa_cons (pv 0) (pa_cons pe_int pa_nil))))
              (pss_cons (ps_set (i := 7) scLText.nd rfl (Or.inl rfl) (pe_ix ix_str (pv 1) (pe_df D_law_draw (hr.mono (by decide)) (pa_cons (pv 0) (pa_cons (pe_callB call_len_str (by rfl) T.len PySem.boot_len (pa_cons (pv 1) pa_nil)) pa_nil))) (fun _ _ => rfl)))
              (pss_cons (ps_if (pt_cmpR op_gt (pv 6) pe_int (nomark _))
                (pss_one (ps_set (i := 7) scLText.nd rfl (Or.inl rfl) (pe_op op_mul_str (pe_ix ix_list (pv 2) (pe_df D_law_draw (hr.mono (by decide)) (pa_cons (pv 0) (pa_cons (pe_callB call_len_seq (by rfl) T.len PySem.boot_len (pa_cons (pv 2) pa_nil)) pa_nil))) (fun _ _ => rfl)) (pe_ix ix_list (pe_lst (pa_cons pe_int (pa_cons pe_int (pa_cons pe_int (pa_cons pe_int pa_nil))))) (pe_op op_sub (pv 6) pe_int) (fun _ _ => rfl)))))
                pss_nil)
              (pss_cons (ps_if (pt_cmpR op_eq (pv 6) pe_int (nomark _))
                (pss_one (ps_set (i := 7) scLText.nd rfl (Or.inl rfl) (pe_slice sl_str (pv 1) (po_some (pe_m1 PySem.F.slot_str_find PySem.F.type_str_find mt_find (pv 1) (pv 7))) po_none)))
                pss_nil)
              (pss_one (ps_set (i := 4) scLText.nd rfl (Or.inl rfl) (pe_op op_add_str (pv 4) (pv 7))))))))
            pss_nil)))
      (pss_one (ps_ret (pe_slice sl_str (pv 4) po_none (po_some (pv 3))))))), ?_⟩
    have e0 : ("" : Str) = tx al [] := (tx_nil al).symm
    refine ⟨_, rfl, _, rfl, _, _, rfl, rfl, a, ns, m + 1, rfl, ha, by omega, by omega, fun ns1 r hn1 hr1 => ?_⟩
    have a1 : (upd H a (.lst (zvs ns1))) a = some (.lst (zvs ns1)) := upd_same
    have kp1 : Kp [a] H (upd H a (.lst (zvs ns1))) := (Kp.refl [a] H).put (.inl (by simp))
    have t1 : (upd H a (.lst (zvs ns1))) tl = some (.lst (tls al Ts)) := by rw [upd_ne natl.symm]; exact htl
    generalize upd H a (.lst (zvs ns1)) = H1 at a1 kp1 t1 ⊢
    refine ⟨r, rfl, by omega, by omega, for_range (lo := 0) (n := (r : Int).toNat) (fun i σ H' => ∃ (v5 v6 v7 : Option V) (L : List Nat) (ns' : List Int), σ = [some (.ref a), some (.str (tS al)), some (.ref tl), some (nV m), some (.str (tx al L)), v5, v6, v7] ∧ Kp [a] H H' ∧ H' a = some (.lst (zvs ns')) ∧ ns'.length ≤ 10000 ∧ Ls al.length L ∧ L.length ≤ 800)
      ⟨_, _, _, [], _, rfl, kp1, a1, by omega, Ls.nil, by simp⟩ ?_ ?_⟩
    · rintro i σ H2 hi ⟨v5, v6, v7, L, ns2, rfl, kp2, a2, hn2, hL, hLl⟩
      have t2 : H2 tl = some (.lst (tls al Ts)) := kp2 _ _ (by simpa using natl.symm) htl
      refine ⟨_, rfl, _, rfl, line_big (by rw [tx_len]; omega), _, rfl, _, _, rfl, rfl, _, rfl, ?_⟩
      rw [tx_len]
      refine itB (fun c => ?_) (fun c => ?_)
      · have hLm : L.length < m := by have := of_decide_eq_true c; omega
        -- the way
        refine ⟨_, rfl, a, ns2, 8, rfl, a2, by decide, by omega, fun ns3 y hn3 hy => ?_⟩
        generalize hH3 : upd H2 a _ = H3
        have a3 : H3 a = some (.lst (zvs ns3)) := by rw [← hH3]; exact upd_same
        have kp3 : Kp [a] H H3 := by rw [← hH3]; exact kp2.put (.inl (by simp))
        clear hH3
        -- a letter
        refine ⟨_, rfl, _, rfl, _, rfl, _, rfl, line_big (by rw [hl]; omega), a, ns3, al.length, ?_, a3, by omega, by omega, fun ns4 g hn4 hg => ?_⟩
        · rw [hl]; rfl
        generalize hH4 : upd H3 a _ = H4
        have a4 : H4 a = some (.lst (zvs ns4)) := by rw [← hH4]; exact upd_same
        have kp4 : Kp [a] H H4 := by rw [← hH4]; exact kp3.put (.inl (by simp))
        clear hH4
        have t4 : H4 tl = some (.lst (tls al Ts)) := kp4 _ _ (by simpa using natl.symm) htl
        have gg : (tS al).cps.toList[g]? = some (al.getD g 0) := by
          show al[g]? = _
          rw [List.getD_eq_getElem?_getD, List.getElem?_eq_getElem hg]; rfl
        refine ⟨_, _, _, rfl, rfl, line_big (by rw [hl]; omega), at_ofN (j := g) rfl gg, ?_⟩
        have last : ∀ (H5 : Hp) (M : List Nat) (ns5 : List Int), Kp [a] H H5 → H5 a = some (.lst (zvs ns5)) → ns5.length ≤ 10000 → Ls al.length M → M.length ≤ 700 → ∀ (D : Ends), D.nx [some (.ref a), some (.str (tS al)), some (.ref tl), some (nV m), some (.str (tx al (L ++ M))), some (.int (0 + (i : Nat))), some (nV y), some (.str (tx al M))] H5 →
            tAsg (tOp (fun x y H Q => ∃ i j, x = V.str i ∧ y = V.str j ∧ i.length + j.length ≤ sizeLine ∧ Q (V.str (i ++ j)) H) (tVar 4) (tVar 7)) (gName 4) D [some (.ref a), some (.str (tS al)), some (.ref tl), some (nV m), some (.str (tx al L)), some (.int (0 + (i : Nat))), some (nV y), some (.str (tx al M))] H5 := by
          intro H5 M ns5 k5 a5 n5 hM hMl D hD
          refine ⟨_, rfl, _, rfl, _, _, rfl, rfl, by rw [tx_len, tx_len]; exact line_big (by omega), ?_⟩
          rw [tx_app]
          exact hD
        by_cases y3 : 3 < y
        · refine ⟨_, rfl, _, _, rfl, rfl, _, rfl, itT (decide_eq_true (by omega)) ?_⟩
          refine ⟨_, rfl, _, rfl, _, rfl, tl, _, rfl, .inl (SqL.of t4), a, ns4, Ts.length, by rw [tls_len]; rfl, a4, List.length_pos_iff.mpr hT0, by omega, fun ns5 z hn5 hz => ?_⟩
          generalize hH5 : upd H4 a _ = H5
          have a5 : H5 a = some (.lst (zvs ns5)) := by rw [← hH5]; exact upd_same
          have kp5 : Kp [a] H H5 := by rw [← hH5]; exact kp4.put (.inl (by simp))
          clear hH5
          have t5 : H5 tl = some (.lst (tls al Ts)) := kp5 _ _ (by simpa using natl.symm) htl
          obtain ⟨hM, hMl⟩ := hT _ (List.getElem_mem hz)
          have gz : (tls al Ts)[z]? = some (.str (tx al Ts[z])) := by rw [tls, List.getElem?_map, List.getElem?_eq_getElem hz]; rfl
          generalize Ts[z] = M at hM hMl gz
          refine ⟨tl, _, _, _, rfl, rfl, SqL.of t5, at_of (j := z) rfl gz, by show 4 ≤ sizeLine; decide, fun q hq => ?_⟩
          have kp6 : Kp [a] H (upd H5 q (.lst [.int 1, .int 1, .int 1, .int 7])) := kp5.trans ((Same.new hq).kp _)
          have a6 : (upd H5 q (.lst [.int 1, .int 1, .int 1, .int 7])) a = some (.lst (zvs ns5)) := (Same.new hq) _ _ a5
          have q6 : (upd H5 q (.lst [.int 1, .int 1, .int 1, .int 7])) q = some (.lst (ivs [1, 1, 1, 7])) := upd_same
          generalize upd H5 q (.lst [.int 1, .int 1, .int 1, .int 7]) = H6 at kp6 a6 q6 ⊢
          have hy4 : y - 4 < ([1, 1, 1, 7] : List Nat).length := by show y - 4 < 4; omega
          have hb := (show ∀ w ∈ ([1, 1, 1, 7] : List Nat), 1 ≤ w ∧ w ≤ 7 by decide) _ (List.getElem_mem hy4)
          have hg6 := ivs_get (List.getElem?_eq_getElem hy4)
          generalize ([1, 1, 1, 7] : List Nat)[y - 4] = n at hb hg6
          refine ⟨_, rfl, _, _, rfl, rfl, q, _, _, _, rfl, rfl, SqL.of q6, at_of (j := y - 4) (by omega) hg6, _, _, rfl, rfl, by omega, by omega, by rw [tx_len]; omega, ?_⟩
          rw [mul_tx, Int.toNat_natCast]
          have hR := flat_rep_ls (n := n) hM
          have hRl : (List.flatten (List.replicate n M)).length ≤ 700 := by
            rw [flat_rep_len]
            exact Nat.le_trans (Nat.mul_le_mul hb.2 hMl) (by decide)
          refine ⟨_, rfl, rfl, _, rfl, itF (decide_eq_false (fun q => ?_)) ?_⟩
          · injection q with q; omega
          refine last H6 _ ns5 kp6 a6 (by omega) hR hRl _ ?_
          exact ⟨_, _, _, L ++ _, _, rfl, kp6, a6, by omega, hL.append hR, by rw [List.length_append]; omega⟩
        · refine ⟨_, rfl, _, _, rfl, rfl, _, rfl, itF (decide_eq_false (by omega)) ?_⟩
          by_cases e3 : y = 3
          · refine ⟨_, rfl, rfl, _, rfl, itT (decide_eq_true (by rw [e3]; rfl)) ?_⟩
            have hcut : cutS (tS al) (some (g : Int)) none = tx al ((List.range al.length).drop g) := by
              rw [al_tx al, cutS_from]
            refine ⟨_, rfl, _, rfl, ⟨_, rfl⟩, _, rfl, _, _, rfl, rfl, _, rfl, _, rfl, line_big (by rw [hl]; omega), ?_⟩
            rw [show (⟨#[al.getD g 0]⟩ : Str) = tS [al.getD g 0] from rfl, find_sign hA.nodup hg, hcut]
            have hR : Ls al.length ((List.range al.length).drop g) := (ls_range _).drop g
            have hRl : ((List.range al.length).drop g).length ≤ 700 := by rw [List.length_drop, List.length_range]; omega
            refine last H4 _ ns4 kp4 a4 (by omega) hR hRl _ ?_
            exact ⟨_, _, _, L ++ _, _, rfl, kp4, a4, by omega, hL.append hR, by rw [List.length_append]; omega⟩
          · refine ⟨_, rfl, rfl, _, rfl, itF (decide_eq_false (fun q => ?_)) ?_⟩
            · injection q with q; omega
            refine last H4 [g] ns4 kp4 a4 (by omega) (ls_one hg) (by simp) _ ?_
            exact ⟨_, _, _, L ++ [g], _, rfl, kp4, a4, by omega, hL.append (ls_one hg), by simp; omega⟩
      · exact ⟨_, _, _, L, ns2, rfl, kp2, a2, hn2, hL, hLl⟩
    · rintro σ H2 ⟨v5, v6, v7, L, ns2, rfl, kp2, a2, hn2, hL, hLl⟩
      refine ⟨_, rfl, _, rfl, _, rfl, _, rfl, line_big (by rw [tx_len]; omega), ?_⟩
      show Q _ _
      rw [cutS_to]
      exact k H2 (L.take m) ns2 (hL.take m) (by rw [List.length_take]; omega) kp2 a2 hn2
end
end Rj

set_option Elab.async false
set_option linter.all false
set_option maxRecDepth 100000
namespace Rj
open PySem L2 PyProof.Rows
/-! ### one way on behind an if -/
theorem gName_at {i : Nat} {v : V} {σ : L2.St} {H : Hp} {R : L2.St → Hp → Prop} (h : R (σ.set i (some v)) H) : gName i v σ H R := h
theorem ifS_gen {c : TT} {A : TS} {D : Ends} {σ : L2.St} {H : Hp} (I : L2.St → Hp → Prop) (h : ∀ D' : Ends, (∀ σ' H', I σ' H' → D'.nx σ' H') → tIfS c A tNext D' σ H) (rest : ∀ σ' H', I σ' H' → D.nx σ' H') : tIfS c A tNext D σ H := h D rest
theorem ifS_gen2 {c : TT} {A B : TS} {D : Ends} {σ : L2.St} {H : Hp} (I : L2.St → Hp → Prop) (h : ∀ D' : Ends, (∀ σ' H', I σ' H' → D'.nx σ' H') → tIfS c A B D' σ H) (rest : ∀ σ' H', I σ' H' → D.nx σ' H') : tIfS c A B D σ H := h D rest
theorem ifS_test {c : TT} {A B : TS} {D : Ends} {σ : L2.St} {H : Hp} (I : Bool → Hp → Prop) (h : ∀ Q' : Bool → Hp → Prop, (∀ b H', I b H' → Q' b H') → c σ H Q') (rest : ∀ b H', I b H' → if b = true then A D σ H' else B D σ H') : tIfS c A B D σ H := h _ rest
/-! ### plain facts -/
theorem ints_shaped : ∀ R : List Nat, SeqAt.shaped (.list (R.map fun n : Nat => PyData.int (n : Int))) = true := fun R => by
  have h1 : ∀ R : List Nat, PyData.canLayAll0 (R.map fun n : Nat => PyData.int (n : Int)) = true := fun R => by
    induction R with
    | nil => rfl
    | cons a t ih => rw [List.map_cons, PyData.canLayAll0, ih]; rfl
  have h2 : ∀ R : List Nat, PyData.depthAll (R.map fun n : Nat => PyData.int (n : Int)) = 0 := fun R => by
    induction R with
    | nil => rfl
    | cons a t ih => rw [List.map_cons, PyData.depthAll, ih]; rfl
  unfold SeqAt.shaped
  rw [PyData.canLay0, PyData.depth, h1, h2]; rfl
theorem ints_dp {K : PySem.W.Frag} {H : Hp} : ∀ R : List Nat, DpAll K H (ivs R) (R.map fun n : Nat => PyData.int (n : Int))
  | [] => .nil
  | a :: t => .cons (.int _) (ints_dp t)
theorem ints_eqv : ∀ {R S : List Nat}, PyData.eqvAll (R.map fun n : Nat => PyData.int (n : Int)) (S.map fun n : Nat => PyData.int (n : Int)) = true → R = S
  | [], [], _ => rfl
  | [], b :: s, h => by cases h
  | a :: t, [], h => by cases h
  | a :: t, b :: s, h => by
    rw [List.map_cons, List.map_cons, PyData.eqvAll] at h
    obtain ⟨h1, h2⟩ := Bool.and_eq_true_iff.mp h
    rw [PyData.eqv] at h1
    have h3 : (a : Int) = (b : Int) := eq_of_beq h1
    rw [ints_eqv h2, show a = b by omega]
theorem jn_two {x y x' y' z : Nat} (h : (x', y') ≠ (x, y)) : jn x' y' z [x, y] = [x, y] := by
  rw [jn, if_neg]
  · rfl
  · rintro ⟨a, b⟩; exact h (by rw [a, b])
theorem stR_two {pr : Nat → Nat × Nat} {b x y : Nat} : ∀ r, (∀ i, i < r → pr i ≠ (x, y)) → stR pr b r [x, y] = [x, y]
  | 0, _ => rfl
  | r + 1, h => by rw [stR, stR_two r fun i hi => h i (by omega), jn_two (h r (by omega))]
/-- a chain of pairs, from above -/
def chn (n j : Nat) : List (Nat × Nat) := (List.range j).map fun i => (n - 2 - i, n - 1 - i)
theorem chn_len (n j : Nat) : (chn n j).length = j := by simp [chn]
theorem chn_succ (n j : Nat) : chn n (j + 1) = chn n j ++ [(n - 2 - j, n - 1 - j)] := by simp [chn, List.range_succ]
theorem chn_get {n j r : Nat} (h : r < j) : prf (chn n j) r = (n - 2 - r, n - 1 - r) := by simp [prf, chn, h, List.getD_eq_getElem?_getD]
theorem chn_ok {n : Nat} (h2 : 2 ≤ n) : ∀ j, j ≤ n - 1 → JP n (chn n j)
  | 0, _ => JP.nil
  | j + 1, hj => by
    rw [chn_succ]
    have hx : n - 2 - j < n := by omega
    have hy : n - 1 - j < n := by omega
    refine (chn_ok h2 j (by omega)).snoc (by omega) (by omega) ?_ ?_
    · rw [ex_letter hx, ex_letter hy]; show 2 ≤ 40; decide
    · rw [ex_letter hx, ex_letter hy]
      refine stR_two _ fun i hi => ?_
      rw [chn_len] at hi
      rw [chn_get hi]
      intro e; injection e with e1 e2; omega
/-- the letters of all pieces -/
def exs (n : Nat) (ps : List (Nat × Nat)) : List (List Nat) := (List.range (n + ps.length)).map (ex n ps)
theorem exs_len (n : Nat) (ps : List (Nat × Nat)) : (exs n ps).length = n + ps.length := by simp [exs]
theorem exs_get {n p : Nat} {ps : List (Nat × Nat)} (h : p < n + ps.length) : (exs n ps)[p]? = some (ex n ps p) := by simp [exs, h]
theorem exs_snoc {n x y : Nat} {ps : List (Nat × Nat)} (hx : x < n + ps.length) (hy : y < n + ps.length) : exs n (ps ++ [(x, y)]) = exs n ps ++ [ex n ps x ++ ex n ps y] := by
  unfold exs
  rw [show (ps ++ [(x, y)]).length = ps.length + 1 by simp, ← Nat.add_assoc, List.range_succ, List.map_append]
  congr 1
  · refine List.map_congr_left fun p hp => ex_app (List.mem_range.mp hp)
  · rw [List.map_singleton, ex_new hx hy]
theorem exs_ok {al : List Nat} {ps : List (Nat × Nat)} (J : JP al.length ps) : TxsAt al (exs al.length ps) := fun M hM => by
  obtain ⟨p, hp, rfl⟩ := List.mem_map.mp hM
  have hp' := List.mem_range.mp hp
  exact ⟨ex_lt J hp', Nat.le_trans (ex_short J hp') (by decide)⟩
theorem exs_nil (n : Nat) : exs n [] = (List.range n).map fun i => [i] := by
  unfold exs
  refine List.map_congr_left fun p hp => ?_
  exact ex_letter (List.mem_range.mp hp)
theorem tls_get {al : List Nat} {ps : List (Nat × Nat)} {p : Nat} (h : p < al.length + ps.length) : (tls al (exs al.length ps))[p]? = some (.str (tx al (ex al.length ps p))) := by
  rw [tls, List.getElem?_map, exs_get h]; rfl
theorem PairsAt.keep {H H' : Hp} {as : List Addr} {ps : List (Nat × Nat)} (h : PairsAt H as ps) (k : ∀ t xs, H t = some (.tup xs) → H' t = some (.tup xs)) : PairsAt H' as ps := ⟨h.1, fun i e he => let ⟨t, a, b⟩ := h.2 i e he; ⟨t, a, k _ _ b⟩⟩
/-- what stands while pairs are made -/
structure LPs (a pl tl : Addr) (al : List Nat) (H H' : Hp) (as : List Addr) (ps : List (Nat × Nat)) (ns : List Int) : Prop where
  kp : Kp [a] H H'
  pool : H' a = some (.lst (zvs ns))
  n : ns.length ≤ 10000
  hpl : H' pl = some (.lst (as.map V.ref))
  hps : PairsAt H' as ps
  htl : H' tl = some (.lst (tls al (exs al.length ps)))
theorem LPs.same {a pl tl : Addr} {al : List Nat} {H H' H2 : Hp} {as : List Addr} {ps : List (Nat × Nat)} {ns : List Int} (h : LPs a pl tl al H H' as ps ns) (s : Same H' H2) : LPs a pl tl al H H2 as ps ns :=
  ⟨h.kp.trans (s.kp _), s _ _ h.pool, h.n, s _ _ h.hpl, h.hps.same s, s _ _ h.htl⟩
theorem LPs.draw {a pl tl : Addr} {al : List Nat} {H H' : Hp} {as : List Addr} {ps : List (Nat × Nat)} {ns ns' : List Int} (h : LPs a pl tl al H H' as ps ns) (n1 : a ≠ pl) (n2 : a ≠ tl) (hn : ns'.length ≤ ns.length) : LPs a pl tl al H (upd H' a (.lst (zvs ns'))) as ps ns' :=
  ⟨h.kp.put (.inl (by simp)), upd_same, by have := h.n; omega, by rw [upd_ne n1.symm]; exact h.hpl, h.hps.keep fun t xs e => by rw [upd_ne (ne_of e h.pool (by intro z; cases z))]; exact e, by rw [upd_ne n2.symm]; exact h.htl⟩
/-! ### the law's pairs -/
def spLPairs : Sp := fun vs H Q _ => ∃ (a : Addr) (ns : List Int) (al : List Nat) (m : Nat), vs = [.ref a, .str (tS al), nV m] ∧ H a = some (.lst (zvs ns)) ∧ ns.length ≤ 10000 ∧ Al al ∧ m ≤ 20 ∧
  ∀ H' t pl tl as ps Ts ns', Kp [a] H H' → H' a = some (.lst (zvs ns')) → ns'.length ≤ 10000 → H' t = some (.tup [.ref pl, .ref tl]) → H' pl = some (.lst (as.map V.ref)) → PairsAt H' as ps → JP al.length ps → ps.length ≤ 40 →
    H' tl = some (.lst (tls al Ts)) → Ts ≠ [] → TxsAt al Ts → a ≠ t → a ≠ pl → a ≠ tl → Q (.ref t) H'
theorem scLPairs : FnScope ["_law_pool_here", "_law_alphabet_here", "_law_most", "_law_pairs_here", "_law_texts", "_law_sign", "_law_k", "_law_left", "_law_right", "_law_row", "_law_at", "_law_text_here"] ["_law_pool_here", "_law_alphabet_here", "_law_most"] (defScope sLPairs) := ⟨rfl, rfl, rfl, by decide +kernel, rfl, by decide +kernel, by decide +kernel⟩
section
variable {P : Program} {w : World} {K : PySem.W.Frag} {mg : Str → Option Value} {base : Heap}
theorem ok_lpairs {f : Addr} {fd : FuncData} (F : Fun K "_law_pairs" "_law_pairs" sLPairs f fd) (T : Gb K mg) (D_law_draw : Df P w K mg base "_law_draw" ["_law_pool_here", "_law_many"] 1 spDraw) (D_law_cut : Df P w K mg base "_law_cut" ["_law_pairs_here", "_law_alphabet_here", "_law_text_here"] 2 spLCut) :
    FnOk P w K mg base CX0 3 f fd ["_law_pool_here", "_law_alphabet_here", "_law_most"] spLPairs := by
  refine F.ok scLPairs (fun vs H Q E h => ?_) (fun cdv A outer s H vs Q E hr h => ?_)
  · obtain ⟨_, _, _, _, rfl, _⟩ := h
    rfl
  · obtain ⟨a, ns, al, m, rfl, ha, hlen, hA, hm, k⟩ := h
    have h1 := hA.one
    have h2 := hA.many
    have hl : (tS al).length = al.length := tS_len al
    refine ⟨_, (pss_cons (ps_set (i := 3) scLPairs.nd rfl (Or.inl rfl) (pe_lst pa_nil))
      (pss_cons (ps_setLc (i := 4) (own := [("_law_sign", 5)]) (g := gName 5) (by rfl) scLPairs.nd rfl rfl (sw_true rfl rfl rfl (by decide +kernel)) (pi_str (pv 1)) (blkOk_by (own := [("_law_sign", 5)]) (N := ["_law_pool_here", "_law_alphabet_here", "_law_most", "_law_pairs_here", "_law_texts", "_law_sign", "_law_k", "_law_left", "_law_right", "_law_row", "_law_at", "_law_text_here"]) (sc := defScope sLPairs) (by decide +kernel)) (fun _ _ _ _ _ => pg_name (i := 5) scLPairs.nd rfl (Or.inl rfl)) (fun _ _ _ _ _ => pts_nil) (fun _ _ _ _ _ => by exact (pv 5)))
      (pss_cons (ps_if (PW.pt (pw_and (pt_cmpR op_gt (pe_callB call_len_str (by rfl) T.len PySem.boot_len (pa_cons (pv 1) pa_nil)) pe_int (nomark _)) (pw_and1 (pt_cmpR op_eq (pe_df D_law_draw (hr.mono (by decide)) (pa_cons (pv 0) (pa_cons pe_int pa_nil))) pe_int (nomark _)))))
        (pss_cons (ps_setLc (i := 3) (own := [("_law_k", 6)]) (g := gName 6) (by rfl) scLPairs.nd rfl rfl (sw_true rfl rfl rfl (by decide +kernel)) (pi_range3 (by rfl) T.range (pa_cons (pe_op op_sub (pe_callB call_len_str (by rfl) T.len PySem.boot_len (pa_cons (pv 1) pa_nil)) pe_int) (pa_cons (pe_un un_neg pe_int) (pa_cons (pe_un un_neg pe_int) pa_nil)))) (blkOk_by (own := [("_law_k", 6)]) (N := ["_law_pool_here", "_law_alphabet_here", "_law_most", "_law_pairs_here", "_law_texts", "_law_sign", "_law_k", "_law_left", "_law_right", "_law_row", "_law_at", "_law_text_here"]) (sc := defScope sLPairs) (by decide +kernel)) (fun _ _ _ _ _ => pg_name (i := 6) scLPairs.nd rfl (Or.inl rfl)) (fun _ _ _ _ _ => pts_nil) (fun _ _ _ _ _ => by exact (pe_tup (pa_cons (pv 6) (pa_cons (pe_op op_add (pv 6) pe_int) pa_nil)))))
          (pss_one (ps_ret (pe_tup (pa_cons (pv 3) (pa_cons (pe_op op_cat (pv 4) (pe_lc (own := [("_law_k", 6)]) (g := gName 6) (by rfl) scLPairs.nd (pi_range3 (by rfl) T.range (pa_cons (pe_op op_sub (pe_callB call_len_str (by rfl) T.len PySem.boot_len (pa_cons (pv 1) pa_nil)) pe_int) (pa_cons (pe_un un_neg pe_int) (pa_cons (pe_un un_neg pe_int) pa_nil)))) (blkOk_by (own := [("_law_k", 6)]) (N := ["_law_pool_here", "_law_alphabet_here", "_law_most", "_law_pairs_here", "_law_texts", "_law_sign", "_law_k", "_law_left", "_law_right", "_law_row", "_law_at", "_law_text_here"]) (sc := defScope sLPairs) (by decide +kernel)) (fun _ _ _ _ _ => pg_name (i := 6) scLPairs.nd rfl (Or.inl rfl)) (fun _ _ _ _ _ => pts_nil) (fun _ _ _ _ _ => by exact (pe_slice sl_str (pv 1) (po_some (pv 6)) (po_some (pe_op op_add (pv 6) pe_int)))))) pa_nil))))))
        pss_nil)
      (pss_cons (ps_for PassesOwn.never rfl (pi_range1 (by rfl) T.range (pa_cons (pv 2) pa_nil)) (pg_name (i := 6) scLPairs.nd rfl (Or.inl rfl))
        (pss_cons (ps_set (i := 7) scLPairs.nd rfl (Or.inl rfl) (pe_df D_law_draw (hr.mono (by decide)) (pa_cons (pv 0) (pa_cons (pe_callB call_len_seq (by rfl) T.len PySem.boot_len (pa_cons (pv 4) pa_nil)) pa_nil))))
          (pss_cons (ps_set (i := 8) scLPairs.nd rfl (Or.inl rfl) (pe_df D_law_draw (hr.mono (by decide)) (pa_cons (pv 0) (pa_cons (pe_callB call_len_seq (by rfl) T.len PySem.boot_len (pa_cons (pv 4) pa_nil)) pa_nil))))
          (pss_cons (ps_if (pt_cmpR op_gt (pe_df D_law_draw (hr.mono (by decide)) (pa_cons (pv 0) (pa_cons pe_int pa_nil))) pe_int (nomark _))
            (pss_cons (ps_set (i := 9) scLPairs.nd rfl (Or.inl rfl) (pe_df D_law_cut (hr.mono (by decide)) (pa_cons (pv 3) (pa_cons (pv 1) (pa_cons (pe_op op_add_str (pe_ix ix_list (pv 4) (pv 7) (fun _ _ => rfl)) (pe_ix ix_list (pv 4) (pv 8) (fun _ _ => rfl))) pa_nil)))))
              (pss_cons (ps_set (i := 10) scLPairs.nd rfl (Or.inl rfl) (pe_df D_law_draw (hr.mono (by decide)) (pa_cons (pv 0) (pa_cons (pe_callB (call_max2 rfl) (by rfl) T.max (by decide +kernel) (pa_cons pe_int (pa_cons (pe_op op_sub (pe_callB call_len_seq (by rfl) T.len PySem.boot_len (pa_cons (pv 9) pa_nil)) pe_int) pa_nil))) pa_nil))))
              (pss_one (ps_if (pt_cmpR op_gt (pe_callB call_len_seq (by rfl) T.len PySem.boot_len (pa_cons (pv 9) pa_nil)) pe_int (nomark _))
                (pss_cons (ps_set (i := 7) scLPairs.nd rfl (Or.inl rfl) (pe_ix ix_list (pv 9) (pv 10) (fun _ _ => rfl)))
                  (pss_one (ps_set (i := 8) scLPairs.nd rfl (Or.inl rfl) (pe_ix ix_list (pv 9) (pe_op op_add (pv 10) pe_int) (fun _ _ => rfl)))))
                pss_nil))))
            pss_nil)
          (pss_cons (ps_set (i := 11) scLPairs.nd rfl (Or.inl rfl) (pe_op op_add_str (pe_ix ix_list (pv 4) (pv 7) (fun _ _ => rfl)) (pe_ix ix_list (pv 4) (pv 8) (fun _ _ => rfl))))
          (pss_one (ps_if (PW.pt (pw_and (pt_cmpR op_le (pe_callB call_len_str (by rfl) T.len PySem.boot_len (pa_cons (pv 11) pa_nil)) pe_int (nomark _)) (pw_and1 (pt_cmpR (op_eqD hr.units) (pe_df D_law_cut (hr.mono (by decide)) (pa_cons (pv 3) (pa_cons (pv 1) (pa_cons (pv 11) pa_nil)))) (pe_lst (pa_cons (pv 7) (pa_cons (pv 8) pa_nil))) (nomark _)))))
            (pss_cons (ps_expr (pe_bm PySem.F.plainAttrs_list PySem.F.slot_list_append PySem.F.type_list_append mt_append (pv 3) (pa_cons (pe_tup (pa_cons (pv 7) (pa_cons (pv 8) pa_nil))) pa_nil)))
              (pss_one (ps_expr (pe_bm PySem.F.plainAttrs_list PySem.F.slot_list_append PySem.F.type_list_append mt_append (pv 4) (pa_cons (pv 11) pa_nil)))))
            pss_nil)))))))
      (pss_one (ps_ret (pe_tup (pa_cons (pv 3) (pa_cons (pv 4) pa_nil))))))))), ?_⟩
    refine ⟨Nat.zero_le _, fun pl hpl => ?_⟩
    have napl : a ≠ pl := ne_of_none ha hpl
    have a0 : (upd H pl (.lst [])) a = some (.lst (zvs ns)) := by rw [upd_ne napl]; exact ha
    have p0 : (upd H pl (.lst [])) pl = some (.lst (([] : List Addr).map V.ref)) := upd_same
    have s0 : Same H (upd H pl (.lst [])) := Same.new hpl
    show tSeq _ _ _ _ (upd H pl (.lst []))
    generalize upd H pl (.lst []) = H0 at a0 p0 s0
    refine ⟨_, rfl, _, rfl, fun tl htl => lc_it walk_str (fun i H' => Same H0 H' ∧ H' tl = some (.lst (tls al ((List.range i).map fun i => [i])))) ⟨Same.new htl, upd_same⟩ (fun _ _ _ _ => trivial) ?_ ?_⟩
    · rintro i c H1 H' hi ⟨s1, l1⟩ ⟨rfl, cc, hc, rfl⟩
      have hi' : i < al.length := by
        have q : i < (tS al).cps.size := hi
        simpa [tS] using q
      have hc' : al[i]? = some cc := by simpa [tS] using hc
      refine ⟨rfl, tt_yes ?_⟩
      refine ⟨_, rfl, _, l1, by rw [tls_len, List.length_map, List.length_range]; exact line_big' (by omega), s1.put htl, ?_⟩
      rw [upd_same, List.range_succ, List.map_append, tls, tls, List.map_append]
      have e : (⟨#[cc]⟩ : Str) = tx al [i] := by
        show tS [cc] = tS [al.getD i 0]
        rw [List.getD_eq_getElem?_getD, hc']; rfl
      rw [e]; rfl
    · rintro H1 ⟨s1, l1⟩
      have en : (tS al).cps.size = al.length := tS_len al
      rw [en, ← exs_nil] at l1
      have natl : a ≠ tl := ne_of_none a0 htl
      have nptl : pl ≠ tl := ne_of_none p0 htl
      have a1 := s1 _ _ a0
      have p1 := s1 _ _ p0
      have s01 : Same H H1 := s0.trans s1
      have gpl : H pl = none := hpl
      have gtl : H tl = none := s0.free htl
      clear s0 s1 a0 p0 hpl
      refine gName_at ?_
      dsimp only
      show tSeq (tIfS _ _ _) _ _ _ H1
      show tIfS _ _ _ _ _ H1
      refine ifS_test (fun b H' => ∃ ns', Kp [a] H1 H' ∧ H' a = some (.lst (zvs ns')) ∧ ns'.length ≤ 10000 ∧ (b = true → 2 < al.length)) (fun Q' hQ => ?_) ?_
      · refine ⟨_, rfl, _, rfl, line_big (by rw [hl]; omega), _, _, rfl, rfl, _, rfl, ?_⟩
        rw [hl]
        refine itB (fun c => ?_) (fun c => hQ _ _ ⟨ns, Kp.refl _ _, a1, hlen, fun h => by cases h⟩)
        have hc : 2 < al.length := by have := of_decide_eq_true c; omega
        refine ⟨_, rfl, a, ns, 5, rfl, a1, by decide, by omega, fun ns2 r hn2 hr2 => ?_⟩
        refine ⟨rfl, _, rfl, hQ _ _ ⟨ns2, (Kp.refl _ _).put (.inl (by simp)), upd_same, by omega, fun _ => hc⟩⟩
      rintro b H2 ⟨ns2, kp2, a2, hn2, hb⟩
      have kpH : Kp [a] H H2 := (s01.kp _).trans kp2
      have p2 : H2 pl = some (.lst (([] : List Addr).map V.ref)) := kp2 _ _ (by simpa using napl.symm) p1
      have t2 : H2 tl = some (.lst (tls al (exs al.length []))) := kp2 _ _ (by simpa using natl.symm) l1
      cases b with
      | true =>
        have h3 := hb rfl
        refine itT rfl ?_
        have npt : pl ≠ tl := nptl
        refine ⟨_, rfl, _, rfl, line_big (by rw [hl]; omega), _, _, rfl, rfl, _, rfl, _, rfl, ?_⟩
        rw [hl]
        refine ⟨_, _, _, _, rfl, RgC.neg (by omega) (by omega) (by decide) (by decide), fun D hD => lc_it walk_rangeC (fun i H' => ∃ as : List Addr, Same H2 H' ∧ H' D = some (.lst (as.map V.ref)) ∧ PairsAt H' as (chn al.length i)) ⟨[], Same.new hD, upd_same, rfl, fun i e he => by simp [chn] at he⟩ (fun _ _ _ _ => trivial) ?_ ?_⟩
        · rintro i x H9 H3 hi ⟨as, s3, l3, hps⟩ ⟨rfl, rfl⟩
          have hi' : i < al.length - 1 := by omega
          refine ⟨rfl, tt_yes ?_⟩
          refine ⟨_, rfl, _, rfl, _, _, rfl, rfl, by show 2 ≤ sizeLine; decide, fun t ht => ?_⟩
          have eT' : (HO.tup [V.int ((al.length : Int) - 2 + (i : Nat) * -1), V.int ((al.length : Int) - 2 + (i : Nat) * -1 + 1)]) = pT (al.length - 2 - i, al.length - 1 - i) := by
            unfold pT nV
            rw [show (al.length : Int) - 2 + (i : Nat) * -1 = ((al.length - 2 - i : Nat) : Int) by omega, show ((al.length - 2 - i : Nat) : Int) + 1 = ((al.length - 1 - i : Nat) : Int) by omega]
          show ∃ acc, (upd H3 t (HO.tup [V.int ((al.length : Int) - 2 + (i : Nat) * -1), V.int ((al.length : Int) - 2 + (i : Nat) * -1 + 1)])) D = some (.lst acc) ∧ _ ∧ _
          rw [eT']
          have st := Same.new (o := pT (al.length - 2 - i, al.length - 1 - i)) ht
          have nDt : D ≠ t := ne_of_none l3 ht
          have hasl : as.length = i := by rw [hps.1, chn_len]
          refine ⟨_, st _ _ l3, by rw [List.length_map]; exact line_big' (by omega), as ++ [t], (s3.trans st).put hD, by rw [upd_same, List.map_append]; rfl, ?_⟩
          rw [chn_succ]
          refine PairsAt.snoc ((hps.same st).keep fun u xs e => ?_) ?_
          · rw [upd_ne (ne_of e (st _ _ l3) (by intro z; cases z))]; exact e
          · rw [upd_ne nDt.symm, upd_same]
        · rintro H3 ⟨as, s3, l3, hps⟩
          have ecnt : ((al.length : Int) - 2 - -1).toNat = al.length - 1 := by omega
          rw [show ((al.length : Int) - 2 - -(1 : Int)).toNat = al.length - 1 from ecnt] at hps
          have t3 := s3 _ _ t2
          have a3 := s3 _ _ a2
          have kp3 : Kp [a] H H3 := kpH.trans (s3.kp _)
          refine ⟨_, rfl, _, rfl, _, rfl, _, rfl, line_big (by rw [hl]; omega), _, _, rfl, rfl, _, rfl, _, rfl, ?_⟩
          rw [hl]
          refine ⟨_, _, _, _, rfl, RgC.neg (by omega) (by omega) (by decide) (by decide), fun D2 hD2 => lc_it walk_rangeC (fun i H' => Same H3 H' ∧ H' D2 = some (.lst (tls al ((List.range i).map fun j => [al.length - 2 - j, al.length - 1 - j])))) ⟨Same.new hD2, upd_same⟩ (fun _ _ _ _ => trivial) ?_ ?_⟩
          · rintro i x H9 H4 hi ⟨s4, l4⟩ ⟨rfl, rfl⟩
            have hi' : i < al.length - 1 := by omega
            refine ⟨rfl, tt_yes ?_⟩
            refine ⟨_, rfl, _, rfl, _, rfl, _, rfl, _, _, rfl, rfl, _, rfl, _, rfl, line_big (by rw [hl]; omega), _, l4, by rw [tls_len, List.length_map, List.length_range]; exact line_big' (by omega), s4.put hD2, ?_⟩
            have ec : cutS (tS al) (some ((al.length : Int) - 2 + (i : Nat) * -1)) (some ((al.length : Int) - 2 + (i : Nat) * -1 + 2)) = tx al [al.length - 2 - i, al.length - 1 - i] := by
              rw [show (al.length : Int) - 2 + (i : Nat) * -1 = ((al.length - 2 - i : Nat) : Int) by omega, show ((al.length - 2 - i : Nat) : Int) + 2 = ((al.length - i : Nat) : Int) by omega]
              conv => lhs; rw [al_tx al]
              rw [cutS_mid]
              congr 1
              refine List.ext_getElem (by simp; omega) fun j h1 h2 => ?_
              have hj : j < 2 := h2
              simp only [List.getElem_take, List.getElem_drop, List.getElem_range]
              rcases j with _ | _ | j
              · show al.length - 2 - i + 0 = al.length - 2 - i; omega
              · show al.length - 2 - i + 1 = al.length - 1 - i; omega
              · omega
            rw [upd_same]
            refine congrArg (fun x => some (HO.lst x)) ?_
            show _ ++ [V.str (cutS (tS al) (some ((al.length : Int) - 2 + (i : Nat) * -1)) (some ((al.length : Int) - 2 + (i : Nat) * -1 + 2)))] = _
            rw [ec, tls, tls, List.range_succ, List.map_append, List.map_append]; rfl
          · rintro H4 ⟨s4, l4⟩
            rw [show ((al.length : Int) - 2 - -(1 : Int)).toNat = al.length - 1 from ecnt] at l4
            refine ⟨tl, D2, _, _, rfl, rfl, s4 _ _ t3, l4, by rw [tls_len, tls_len, exs_len, List.length_map, List.length_range]; exact line_big (by show al.length + 0 + _ ≤ _; omega), fun q hq => ?_⟩
            have s5 := Same.new (o := .lst (tls al (exs al.length []) ++ tls al ((List.range (al.length - 1)).map fun j => [al.length - 2 - j, al.length - 1 - j]))) hq
            refine ⟨by show 2 ≤ sizeLine; decide, fun t ht => ?_⟩
            have s6 := Same.new (o := .tup [.ref D, .ref q]) ht
            have s36 : Same H3 _ := s4.trans (s5.trans s6)
            have a6 := s36 _ _ a3
            refine k _ t D q as (chn al.length (al.length - 1)) (exs al.length [] ++ (List.range (al.length - 1)).map fun j => [al.length - 2 - j, al.length - 1 - j]) ns2 (kp3.trans (s36.kp _)) a6 hn2 upd_same (s36 _ _ l3) (hps.same s36) (chn_ok (by omega) _ (Nat.le_refl _)) (by rw [chn_len]; omega) ?_ ?_ ?_ ?_ ?_ ?_
            · have := s6 q _ upd_same
              rw [this, tls, tls, tls, List.map_append]
            · intro e
              have := congrArg List.length e
              have e1 : (exs al.length []).length = al.length := by rw [exs_len]; rfl
              rw [List.length_append, e1] at this
              simp only [List.length_nil] at this
              omega
            · intro M hM
              rcases List.mem_append.mp hM with h | h
              · exact exs_ok JP.nil M h
              · obtain ⟨j, hj, rfl⟩ := List.mem_map.mp h
                have := List.mem_range.mp hj
                refine ⟨fun c hc => ?_, by show 2 ≤ 100; decide⟩
                simp at hc; omega
            · exact ne_of_none (s4.trans s5 _ _ a3) ht
            · exact ne_of_none a2 hD
            · exact ne_of_none (s4 _ _ a3) hq
      | false =>
        refine itF rfl ?_
        refine ⟨_, rfl, m, rfl, by omega, by omega, for_range (lo := 0) (n := (m : Int).toNat) (fun i σ H' => ∃ (v5 v6 v7 v8 v9 v10 v11 : Option V) (as : List Addr) (ps : List (Nat × Nat)) (ns' : List Int), σ = [some (.ref a), some (.str (tS al)), some (nV m), some (.ref pl), some (.ref tl), v5, v6, v7, v8, v9, v10, v11] ∧
          LPs a pl tl al H H' as ps ns' ∧ JP al.length ps ∧ ps.length ≤ i) ?_ ?_ ?_⟩
        · exact ⟨_, _, _, _, _, _, _, [], [], ns2, rfl, ⟨kpH, a2, hn2, p2, ⟨rfl, fun i e he => by simp at he⟩, t2⟩, JP.nil, Nat.zero_le _⟩
        · rintro i σ H3 hi ⟨v5, v6, v7, v8, v9, v10, v11, as, ps, ns3, rfl, W, J, hpi⟩
          have hi20 : i < 20 := by omega
          have hpos : 0 < al.length + ps.length := by omega
          refine ⟨_, rfl, _, rfl, tl, _, rfl, .inl (SqL.of W.htl), a, ns3, al.length + ps.length, by rw [tls_len, exs_len]; rfl, W.pool, hpos, Nat.le_trans W.n (by decide), fun ns4 x hn4 hx => ?_⟩
          have W4 := W.draw napl natl hn4
          generalize upd H3 a _ = H4 at W4 ⊢
          refine ⟨_, rfl, _, rfl, tl, _, rfl, .inl (SqL.of W4.htl), a, ns4, al.length + ps.length, by rw [tls_len, exs_len]; rfl, W4.pool, hpos, Nat.le_trans W4.n (by decide), fun ns5 y hn5 hy => ?_⟩
          have W5 := W4.draw napl natl hn5
          refine gName_at ?_
          dsimp only
          show tSeq (tIfS _ _ _) _ _ _ (upd H4 a _)
          show tIfS _ _ _ _ _ (upd H4 a _)
          generalize upd H4 a _ = H5 at W5 ⊢
          refine ifS_gen (fun σ' H' => ∃ (v9 v10 : Option V) (x y : Nat) (ns' : List Int), σ' = [some (.ref a), some (.str (tS al)), some (nV m), some (.ref pl), some (.ref tl), v5, some (.int (0 + (i : Nat))), some (nV x), some (nV y), v9, v10, v11] ∧ LPs a pl tl al H H' as ps ns' ∧ x < al.length + ps.length ∧ y < al.length + ps.length) (fun D' hD' => ?_) ?_
          · refine ⟨_, rfl, a, ns5, 3, rfl, W5.pool, by decide, Nat.le_trans W5.n (by decide), fun ns6 r hn6 hr6 => ?_⟩
            have W6 := W5.draw napl natl hn6
            generalize upd H5 a _ = H6 at W6 ⊢
            refine ⟨_, _, rfl, rfl, _, rfl, itB (fun _ => ?_) (fun _ => hD' _ _ ⟨_, _, x, y, _, rfl, W6, hx, hy⟩)⟩
            have sx := ex_short J hx
            have sy := ex_short J hy
            refine ⟨_, rfl, _, rfl, _, rfl, _, rfl, tl, _, _, _, rfl, rfl, SqL.of W6.htl, at_of (j := x) rfl (tls_get hx), _, rfl, _, rfl, tl, _, _, _, rfl, rfl, SqL.of W6.htl, at_of (j := y) rfl (tls_get hy), _, _, rfl, rfl, by rw [tx_len, tx_len]; exact line_big (by omega), ?_⟩
            have hLx : Ls al.length (ex al.length ps x ++ ex al.length ps y) := Ls.append (ex_lt J hx) (ex_lt J hy)
            refine ⟨pl, as, al, ps, ex al.length ps x ++ ex al.length ps y, by rw [tx_app]; rfl, W6.hpl, W6.hps, by omega, J.proper.1, hA, hLx, by rw [List.length_append]; omega, fun H7 q s7 fq hq => ?_⟩
            have W7 := W6.same s7
            have naq : a ≠ q := ne_of_none W6.pool fq
            have hRlt := cutP_lt (ps := ps) hLx
            generalize cutP al.length ps (ex al.length ps x ++ ex al.length ps y) = R at hq hRlt
            refine ⟨_, rfl, _, rfl, q, _, rfl, .inl (SqL.of hq), _, _, rfl, rfl, _, _, rfl, a, ns6, (if 2 < R.length then R.length - 1 else 1), ?_, W7.pool, by split <;> omega, Nat.le_trans W7.n (by decide), fun ns8 z hn8 hz => ?_⟩
            · rw [ivs_len]
              have e : (if (R.length : Int) - 1 > 1 then (R.length : Int) - 1 else 1) = ((if 2 < R.length then R.length - 1 else 1 : Nat) : Int) := by split <;> split <;> omega
              show [V.ref a, V.int (if (R.length : Int) - 1 > 1 then (R.length : Int) - 1 else 1)] = _
              rw [e]; rfl
            have W8 := W7.draw napl natl hn8
            have q8 : (upd H7 a (.lst (zvs ns8))) q = some (.lst (ivs R)) := by rw [upd_ne naq.symm]; exact hq
            refine gName_at ?_
            dsimp only
            show tSeq (tIfS _ _ _) _ _ _ (upd H7 a _)
            show tIfS _ _ _ _ _ (upd H7 a _)
            generalize upd H7 a _ = H8 at W8 q8 ⊢
            refine ⟨_, rfl, q, _, rfl, .inl (SqL.of q8), _, _, rfl, rfl, _, rfl, ?_⟩
            rw [ivs_len]
            refine itB (fun c => ?_) (fun _ => hD' _ _ ⟨_, _, x, y, _, rfl, W8, hx, hy⟩)
            have hc : 1 < R.length := by have := of_decide_eq_true c; omega
            have hz1 : z + 1 < R.length := by split at hz <;> omega
            refine ⟨_, rfl, _, rfl, q, _, _, _, rfl, rfl, SqL.of q8, at_of (j := z) rfl (ivs_get (List.getElem?_eq_getElem (by omega))), ?_⟩
            refine ⟨_, rfl, _, rfl, _, _, rfl, rfl, q, _, _, _, rfl, rfl, SqL.of q8, at_of (j := z + 1) rfl (ivs_get (List.getElem?_eq_getElem hz1)), ?_⟩
            exact hD' _ _ ⟨_, _, _, _, _, rfl, W8, hRlt _ (List.getElem_mem _), hRlt _ (List.getElem_mem _)⟩
          · rintro σ' H6 ⟨v9, v10, x, y, ns6, rfl, W6, hx, hy⟩
            have sx := ex_short J hx
            have sy := ex_short J hy
            refine ⟨_, rfl, _, rfl, tl, _, _, _, rfl, rfl, SqL.of W6.htl, at_of (j := x) rfl (tls_get hx), _, rfl, _, rfl, tl, _, _, _, rfl, rfl, SqL.of W6.htl, at_of (j := y) rfl (tls_get hy), _, _, rfl, rfl, by rw [tx_len, tx_len]; exact line_big (by omega), ?_⟩
            rw [tx_app]
            have hLx : Ls al.length (ex al.length ps x ++ ex al.length ps y) := Ls.append (ex_lt J hx) (ex_lt J hy)
            refine ⟨_, rfl, _, rfl, line_big (by rw [tx_len, List.length_append]; omega), _, _, rfl, rfl, _, rfl, ?_⟩
            rw [tx_len]
            refine itB (fun c40 => ?_) (fun _ => iteF ⟨_, _, _, _, _, _, _, as, ps, ns6, rfl, W6, J, by omega⟩)
            have h40 : (ex al.length ps x ++ ex al.length ps y).length ≤ 40 := by have := of_decide_eq_true c40; omega
            refine ⟨_, rfl, _, rfl, _, rfl, pl, as, al, ps, _, rfl, W6.hpl, W6.hps, by omega, J.proper.1, hA, hLx, by omega, fun H7 q s7 _ hq => ?_⟩
            have W7 := W6.same s7
            refine ⟨_, rfl, _, rfl, by show 2 ≤ sizeLine; decide, fun q2 hq2 => ?_⟩
            have s8 : Same H7 (upd H7 q2 (.lst (ivs [x, y]))) := Same.new hq2
            have W8 := W7.same s8
            have q8 := s8 _ _ hq
            have r8 : (upd H7 q2 (.lst (ivs [x, y]))) q2 = some (.lst (ivs [x, y])) := upd_same
            have e8 : upd H7 q2 (.lst [nV x, nV y]) = upd H7 q2 (.lst (ivs [x, y])) := rfl
            rw [e8]
            generalize upd H7 q2 (.lst (ivs [x, y])) = H8 at s8 W8 q8 r8 ⊢
            refine ⟨_, _, .lst (SqL.of q8) (ints_dp _), .lst (SqL.of r8) (ints_dp [x, y]), ints_shaped _, ints_shaped [x, y], _, rfl, ?_⟩
            refine itB (fun ce => ?_) (fun _ => ⟨_, _, _, _, _, _, _, as, ps, ns6, rfl, W8, J, by omega⟩)
            have hcut : cutP al.length ps (ex al.length ps x ++ ex al.length ps y) = [x, y] := ints_eqv (S := [x, y]) (by rw [PyData.eqv] at ce; exact ce)
            have J2 := J.snoc hx hy h40 hcut
            have nptl' : pl ≠ tl := nptl
            refine ⟨_, rfl, .inl ⟨rfl, _, SqL.of W8.hpl⟩, _, rfl, _, rfl, by show 2 ≤ sizeLine; decide, fun t ht => ?_⟩
            have s9 : Same H8 (upd H8 t (pT (x, y))) := Same.new ht
            have W9 := W8.same s9
            have t9 : (upd H8 t (pT (x, y))) t = some (pT (x, y)) := upd_same
            have npt : pl ≠ t := ne_of_none W8.hpl ht
            have hasl : as.length = ps.length := W8.hps.1
            refine ⟨pl, _, _, rfl, rfl, W9.hpl, by rw [List.length_map]; exact line_big' (by omega), ?_⟩
            refine ⟨_, rfl, .inl ⟨rfl, _, SqL.of (by rw [upd_ne nptl'.symm]; exact W9.htl)⟩, _, rfl, tl, _, _, rfl, rfl, by rw [upd_ne nptl'.symm]; exact W9.htl, by rw [tls_len, exs_len]; exact line_big' (by omega), ?_⟩
            refine ⟨_, _, _, _, _, _, _, as ++ [t], ps ++ [(x, y)], ns6, rfl, ?_, J2, by rw [List.length_append, List.length_singleton]; omega⟩
            refine ⟨(W9.kp.put (.inr gpl)).put (.inr gtl), by rw [upd_ne natl, upd_ne napl]; exact W9.pool, W9.n, by rw [upd_ne nptl', upd_same, List.map_append]; rfl, ?_, ?_⟩
            · refine PairsAt.snoc (W9.hps.keep fun u xs e => ?_) ?_
              · rw [upd_ne (ne_of e W9.htl (by intro z; cases z)), upd_ne (ne_of e W9.hpl (by intro z; cases z))]; exact e
              · rw [upd_ne (ne_of t9 W9.htl (by intro z; cases z)), upd_ne npt.symm]; exact t9
            · rw [upd_same, exs_snoc hx hy, tls, tls, List.map_append]; rfl
        · rintro σ H3 ⟨v5, v6, v7, v8, v9, v10, v11, as, ps, ns3, rfl, W, J, hpi⟩
          refine ⟨_, rfl, _, rfl, by show 2 ≤ sizeLine; decide, fun t ht => ?_⟩
          have s4 := Same.new (o := .tup [.ref pl, .ref tl]) ht
          have W4 := W.same s4
          exact k _ t pl tl as ps (exs al.length ps) ns3 W4.kp W4.pool W4.n upd_same W4.hpl W4.hps J (by omega) W4.htl (fun e => by have := congrArg List.length e; rw [exs_len, List.length_nil] at this; omega) (exs_ok J) (ne_of_none W.pool ht) napl natl
end
end Rj

set_option Elab.async false
set_option linter.all false
set_option maxRecDepth 100000
namespace Rj
open PySem L2 PyProof.Rows
/-! ### two pages and the law's own lists -/
structure Side where
  p : Addr
  b : Addr
  a : Addr
  S : List Addr
  T : List Nat
  L : List Nat
  D : List Edit
  U : List Edit
  B : List (List Nat)
  A : List (List Nat)
def rtls (al : List Nat) (Bs : List (List Nat)) : List V := tls al Bs.reverse
def pr {α : Type} (one : Nat) (x y : α) : List α := if one = 0 then [x, y] else [y, x]
structure PG (C : Addr) (H : Hp) (ja : Addr) (al : List Nat) (ps : List (Nat × Nat)) (s : Side) : Prop where
  ex : ∃ le ld lu, s.S = [s.p, le, ld, lu] ∧ PF C H s.p le ld lu ja al ps s.L s.D s.U
theorem PG.filled {C : Addr} {H : Hp} {ja : Addr} {al : List Nat} {ps : List (Nat × Nat)} {s : Side} (h : PG C H ja al ps s) : ∀ x ∈ s.S, ∃ v, H x = some v ∧ ∀ xs, v ≠ .tup xs := by
  obtain ⟨le, ld, lu, e, F⟩ := h.ex
  obtain ⟨dx, td, tu, h1, h2, h3, _, h5, _⟩ := F.ex
  intro x hx
  rw [e] at hx
  simp only [List.mem_cons, List.not_mem_nil, or_false] at hx
  rcases hx with rfl | rfl | rfl | rfl
  · exact ⟨_, h1, fun _ z => by cases z⟩
  · exact ⟨_, h2, fun _ z => by cases z⟩
  · exact ⟨_, h3, fun _ z => by cases z⟩
  · exact ⟨_, h5, fun _ z => by cases z⟩
theorem PG.keep {C : Addr} {H H' : Hp} {ja : Addr} {al : List Nat} {ps : List (Nat × Nat)} {s : Side} (h : PG C H ja al ps s) (k : ∀ x ∈ s.S, ∀ v, H x = some v → H' x = some v) (kt : ∀ t xs, H t = some (.tup xs) → H' t = some (.tup xs)) : PG C H' ja al ps s := by
  obtain ⟨le, ld, lu, e, F⟩ := h.ex
  obtain ⟨dx, td, tu, h1, h2, h3, h4, h5, h6, n⟩ := F.ex
  rw [e] at k
  exact ⟨le, ld, lu, e, dx, td, tu, k _ (by simp) _ h1, k _ (by simp) _ h2, k _ (by simp) _ h3, h4.keep kt, k _ (by simp) _ h5, h6.keep kt, n⟩
structure Wd (C : Addr) (F0 H : Hp) (ja : Addr) (al : List Nat) (ps : List (Nat × Nat)) (pool txl : Addr) (one : Nat) (c o : Side) : Prop where
  same : Same F0 H
  pgc : PG C H ja al ps c
  pgo : PG C H ja al ps o
  cb : H c.b = some (.lst (rtls al c.B))
  ca : H c.a = some (.lst (rtls al c.A))
  ob : H o.b = some (.lst (rtls al o.B))
  oa : H o.a = some (.lst (rtls al o.A))
  hp : ∃ ns, H pool = some (.lst (zvs ns)) ∧ ns.length ≤ 10000
  ht : H txl = some (.lst (pr one (V.str (tx al c.T)) (V.str (tx al o.T))))
  nd : [pool, txl, c.b, c.a, o.b, o.a].Nodup
  fr : ∀ x ∈ [pool, txl, c.b, c.a, o.b, o.a], F0 x = none ∧ x ∉ c.S ∧ x ∉ o.S
  dis : ∀ x ∈ c.S, x ∉ o.S
  frc : ∀ x ∈ c.S, F0 x = none
  fro : ∀ x ∈ o.S, F0 x = none
section
variable {C : Addr} {F0 H H' : Hp} {ja : Addr} {al : List Nat} {ps : List (Nat × Nat)} {pool txl : Addr} {one : Nat} {c o : Side}
theorem pr_swap {α : Type} {x y : α} (h : one < 2) : pr (1 - one) y x = pr one x y := by
  unfold pr
  rcases one with _ | _ | one
  · rfl
  · rfl
  · omega
theorem pr_len {α : Type} {x y : α} : (pr one x y).length = 2 := by unfold pr; split <;> rfl
theorem pr_get {α : Type} {x y : α} (h : one < 2) : (pr one x y)[one]? = some x := by
  unfold pr
  rcases one with _ | _ | one
  · rfl
  · rfl
  · omega
theorem pr_get' {α : Type} {x y : α} (h : one < 2) : (pr one x y)[1 - one]? = some y := by
  unfold pr
  rcases one with _ | _ | one
  · rfl
  · rfl
  · omega
theorem pr_set {α : Type} {x y z : α} (h : one < 2) : (pr one x y).set one z = pr one z y := by
  unfold pr
  rcases one with _ | _ | one
  · rfl
  · rfl
  · omega
theorem Wd.swap (w : Wd C F0 H ja al ps pool txl one c o) (h : one < 2) : Wd C F0 H ja al ps pool txl (1 - one) o c := by
  have hp : [pool, txl, c.b, c.a, o.b, o.a].Perm [pool, txl, o.b, o.a, c.b, c.a] := by
    refine .cons _ (.cons _ ?_)
    exact List.perm_append_comm (l₁ := [c.b, c.a]) (l₂ := [o.b, o.a])
  exact ⟨w.same, w.pgo, w.pgc, w.ob, w.oa, w.cb, w.ca, w.hp, by rw [pr_swap h]; exact w.ht, hp.nodup_iff.mp w.nd, fun x hx => let ⟨a, b, d⟩ := w.fr x (hp.mem_iff.mpr hx); ⟨a, d, b⟩, fun x hx hy => w.dis x hy hx, w.fro, w.frc⟩
theorem Wd.on (w : Wd C F0 H ja al ps pool txl one c o) (s : Same H H') : Wd C F0 H' ja al ps pool txl one c o :=
  ⟨w.same.trans s, w.pgc.keep (fun x _ v e => s _ _ e) fun t xs e => s _ _ e, w.pgo.keep (fun x _ v e => s _ _ e) fun t xs e => s _ _ e, s _ _ w.cb, s _ _ w.ca, s _ _ w.ob, s _ _ w.oa, let ⟨ns, a, b⟩ := w.hp; ⟨ns, s _ _ a, b⟩, s _ _ w.ht, w.nd, w.fr, w.dis, w.frc, w.fro⟩
theorem nd6 {a b c d e f : Addr} (h : [a, b, c, d, e, f].Nodup) : (a ≠ b ∧ a ≠ c ∧ a ≠ d ∧ a ≠ e ∧ a ≠ f) ∧ (b ≠ c ∧ b ≠ d ∧ b ≠ e ∧ b ≠ f) ∧ (c ≠ d ∧ c ≠ e ∧ c ≠ f) ∧ (d ≠ e ∧ d ≠ f) ∧ e ≠ f := by
  simp only [List.nodup_cons, List.mem_cons, List.not_mem_nil, or_false, not_or, List.nodup_nil, and_true, not_false_eq_true] at h
  obtain ⟨⟨h1, h2, h3, h4, h5⟩, ⟨h6, h7, h8, h9⟩, ⟨h10, h11, h12⟩, ⟨h13, h14⟩, h15⟩ := h
  exact ⟨⟨h1, h2, h3, h4, h5⟩, ⟨h6, h7, h8, h9⟩, ⟨h10, h11, h12⟩, ⟨h13, h14⟩, h15⟩
/-- a cell of the six is a list -/
theorem Wd.cell (w : Wd C F0 H ja al ps pool txl one c o) {x : Addr} (hx : x ∈ [pool, txl, c.b, c.a, o.b, o.a]) : ∃ xs, H x = some (.lst xs) := by
  simp only [List.mem_cons, List.not_mem_nil, or_false] at hx
  rcases hx with rfl | rfl | rfl | rfl | rfl | rfl
  · obtain ⟨ns, a, _⟩ := w.hp; exact ⟨_, a⟩
  · exact ⟨_, w.ht⟩
  · exact ⟨_, w.cb⟩
  · exact ⟨_, w.ca⟩
  · exact ⟨_, w.ob⟩
  · exact ⟨_, w.oa⟩
theorem Wd.base (w : Wd C F0 H ja al ps pool txl one c o) {x : Addr} (hx : x ∈ [pool, txl, c.b, c.a, o.b, o.a]) (v : HO) : Same F0 (upd H x v) ∧ PG C (upd H x v) ja al ps c ∧ PG C (upd H x v) ja al ps o := by
  obtain ⟨f, d1, d2⟩ := w.fr x hx
  obtain ⟨xs, e⟩ := w.cell hx
  have kt : ∀ t ys, H t = some (.tup ys) → upd H x v t = some (.tup ys) := fun t ys h => by rw [upd_ne (ne_of h e (by intro z; cases z))]; exact h
  exact ⟨w.same.put f, w.pgc.keep (fun y hy u h => by rw [upd_ne (fun q => d1 (by rw [← q]; exact hy))]; exact h) kt, w.pgo.keep (fun y hy u h => by rw [upd_ne (fun q => d2 (by rw [← q]; exact hy))]; exact h) kt⟩
theorem Wd.draw (w : Wd C F0 H ja al ps pool txl one c o) {ns : List Int} (h : ns.length ≤ 10000) : Wd C F0 (upd H pool (.lst (zvs ns))) ja al ps pool txl one c o := by
  obtain ⟨b1, b2, b3⟩ := w.base (x := pool) (by simp) (.lst (zvs ns))
  obtain ⟨⟨n1, n2, n3, n4, n5⟩, _⟩ := nd6 w.nd
  exact ⟨b1, b2, b3, by rw [upd_ne n2.symm]; exact w.cb, by rw [upd_ne n3.symm]; exact w.ca, by rw [upd_ne n4.symm]; exact w.ob, by rw [upd_ne n5.symm]; exact w.oa, ⟨ns, upd_same, h⟩, by rw [upd_ne n1.symm]; exact w.ht, w.nd, w.fr, w.dis, w.frc, w.fro⟩
theorem Wd.setT (w : Wd C F0 H ja al ps pool txl one c o) (M : List Nat) : Wd C F0 (upd H txl (.lst (pr one (V.str (tx al M)) (V.str (tx al o.T))))) ja al ps pool txl one { c with T := M } o := by
  obtain ⟨b1, b2, b3⟩ := w.base (x := txl) (by simp) (.lst (pr one (V.str (tx al M)) (V.str (tx al o.T))))
  obtain ⟨⟨n1, _⟩, ⟨n2, n3, n4, n5⟩, _⟩ := nd6 w.nd
  obtain ⟨ns, hp, hn⟩ := w.hp
  exact ⟨b1, ⟨b2.ex⟩, b3, by rw [upd_ne n2.symm]; exact w.cb, by rw [upd_ne n3.symm]; exact w.ca, by rw [upd_ne n4.symm]; exact w.ob, by rw [upd_ne n5.symm]; exact w.oa, ⟨ns, by rw [upd_ne n1]; exact hp, hn⟩, upd_same, w.nd, w.fr, w.dis, w.frc, w.fro⟩
theorem Wd.setB (w : Wd C F0 H ja al ps pool txl one c o) (Bs : List (List Nat)) : Wd C F0 (upd H c.b (.lst (rtls al Bs))) ja al ps pool txl one { c with B := Bs } o := by
  obtain ⟨b1, b2, b3⟩ := w.base (x := c.b) (by simp) (.lst (rtls al Bs))
  obtain ⟨⟨_, n1, _⟩, ⟨n2, _⟩, ⟨n3, n4, n5⟩, _⟩ := nd6 w.nd
  obtain ⟨ns, hp, hn⟩ := w.hp
  exact ⟨b1, ⟨b2.ex⟩, b3, upd_same, by rw [upd_ne n3.symm]; exact w.ca, by rw [upd_ne n4.symm]; exact w.ob, by rw [upd_ne n5.symm]; exact w.oa, ⟨ns, by rw [upd_ne n1]; exact hp, hn⟩, by rw [upd_ne n2]; exact w.ht, w.nd, w.fr, w.dis, w.frc, w.fro⟩
theorem Wd.setA (w : Wd C F0 H ja al ps pool txl one c o) (As : List (List Nat)) : Wd C F0 (upd H c.a (.lst (rtls al As))) ja al ps pool txl one { c with A := As } o := by
  obtain ⟨b1, b2, b3⟩ := w.base (x := c.a) (by simp) (.lst (rtls al As))
  obtain ⟨⟨_, _, n1, _⟩, ⟨_, n2, _⟩, ⟨n3, _⟩, ⟨n4, n5⟩, _⟩ := nd6 w.nd
  obtain ⟨ns, hp, hn⟩ := w.hp
  exact ⟨b1, ⟨b2.ex⟩, b3, by rw [upd_ne n3]; exact w.cb, upd_same, by rw [upd_ne n4.symm]; exact w.ob, by rw [upd_ne n5.symm]; exact w.oa, ⟨ns, by rw [upd_ne n1]; exact hp, hn⟩, by rw [upd_ne n2]; exact w.ht, w.nd, w.fr, w.dis, w.frc, w.fro⟩
/-- all but the page's own places -/
def frm (S : List Addr) (H : Hp) : Hp := fun b => if b ∈ S then none else H b
theorem frm_in {S : List Addr} {b : Addr} (h : b ∈ S) : frm S H b = none := if_pos h
theorem frm_out {S : List Addr} {b : Addr} (h : b ∉ S) : frm S H b = H b := if_neg h
theorem frm_same {S : List Addr} : Same (frm S H) H := fun b u e => by
  unfold frm at e; split at e
  · cases e
  · exact e
theorem frm_none {S : List Addr} {b : Addr} (h : frm S H b = none) : b ∈ S ∨ H b = none := by
  unfold frm at h; split at h
  · exact .inl ‹_›
  · exact .inr h
theorem Wd.frame (w : Wd C F0 H ja al ps pool txl one c o) : Same F0 (frm c.S H) := fun b u e => by
  have : b ∉ c.S := fun q => by rw [w.frc b q] at e; cases e
  rw [frm_out this]; exact w.same _ _ e
theorem Wd.pw (w : Wd C F0 H ja al ps pool txl one c o) : PW C (frm c.S H) H c.p ja al ps c.L c.D c.U := by
  obtain ⟨le, ld, lu, e, F⟩ := w.pgc.ex
  exact ⟨frm_same, frm_in (by rw [e]; simp), le, ld, lu, frm_in (by rw [e]; simp), frm_in (by rw [e]; simp), frm_in (by rw [e]; simp), F⟩
theorem Wd.page (w : Wd C F0 H ja al ps pool txl one c o) {L : List Nat} {D U : List Edit} (h : PW C (frm c.S H) H' c.p ja al ps L D U) : ∃ S, Wd C F0 H' ja al ps pool txl one { c with S := S, L := L, D := D, U := U } o := by
  obtain ⟨le, ld, lu, g1, g2, g3, F⟩ := h.at_
  have hS : ∀ x ∈ [c.p, le, ld, lu], frm c.S H x = none := by
    intro x hx
    simp only [List.mem_cons, List.not_mem_nil, or_false] at hx
    rcases hx with rfl | rfl | rfl | rfl
    · exact h.own
    · exact g1
    · exact g2
    · exact g3
  have out : ∀ {x : Addr} {v : HO}, x ∉ c.S → H x = some v → H' x = some v := fun n e => h.same _ _ (by rw [frm_out n]; exact e)
  have kt : ∀ t xs, H t = some (.tup xs) → H' t = some (.tup xs) := fun t xs e => out (fun q => by
    obtain ⟨v, hv, hn⟩ := w.pgc.filled t q
    rw [hv] at e; exact hn xs (Option.some.inj e)) e
  have sep : ∀ x ∈ [c.p, le, ld, lu], ∀ y, y ∉ c.S → (∃ v, H y = some v) → x ≠ y := fun x hx y hy ⟨v, hv⟩ e => by
    rcases frm_none (hS x hx) with h1 | h1
    · exact hy (e ▸ h1)
    · rw [e, hv] at h1; cases h1
  obtain ⟨ns, hp, hn⟩ := w.hp
  have fr := w.fr
  refine ⟨[c.p, le, ld, lu], w.frame.trans h.same, ⟨le, ld, lu, rfl, F⟩, w.pgo.keep (fun x hx v e => out (fun q => w.dis x q hx) e) kt, out (fr c.b (by simp)).2.1 w.cb, out (fr c.a (by simp)).2.1 w.ca, out (fr o.b (by simp)).2.1 w.ob, out (fr o.a (by simp)).2.1 w.oa,
    ⟨ns, out (fr pool (by simp)).2.1 hp, hn⟩, out (fr txl (by simp)).2.1 w.ht, w.nd, fun x hx => ?_, fun x hx hy => ?_, fun x hx => ?_, w.fro⟩
  · obtain ⟨a, b, d⟩ := fr x hx
    obtain ⟨xs, e⟩ := w.cell hx
    exact ⟨a, fun q => sep x q x b ⟨_, e⟩ rfl, d⟩
  · obtain ⟨v, hv, _⟩ := w.pgo.filled x hy
    exact sep x hx x (fun q => w.dis x q hy) ⟨v, hv⟩ rfl
  · rcases frm_none (hS x hx) with h1 | h1
    · exact w.frc x h1
    · exact w.same.free h1
end
/-! ### what the law knows of a page -/
structure GoodS (al : List Nat) (k : Nat) (s : Side) : Prop where
  eq : s.T = s.L
  ls : Ls al.length s.L
  len : s.L.length ≤ 80
  lsB : ∀ M ∈ s.B, Ls al.length M ∧ M.length ≤ 80
  lsA : ∀ M ∈ s.A, Ls al.length M ∧ M.length ≤ 80
  back : Back s.D s.B s.L
  forth : Forth s.U s.A s.L
  cnt : s.D.length + s.U.length ≤ k
theorem GoodS.more {al : List Nat} {k k' : Nat} {s : Side} (g : GoodS al k s) (h : k ≤ k') : GoodS al k' s := ⟨g.eq, g.ls, g.len, g.lsB, g.lsA, g.back, g.forth, Nat.le_trans g.cnt h⟩
theorem Ed.lens {e : Edit} {A B : List Nat} (h : Ed e A B) : e.2.1.length ≤ A.length ∧ e.2.2.length ≤ B.length := by
  obtain ⟨X, Y, hX, rfl, rfl⟩ := h
  constructor <;> (simp; omega)
theorem rtls_cons (al : List Nat) (M : List Nat) (Bs : List (List Nat)) : rtls al (M :: Bs) = rtls al Bs ++ [V.str (tx al M)] := by simp [rtls, tls]
theorem rtls_len (al : List Nat) (Bs : List (List Nat)) : (rtls al Bs).length = Bs.length := by simp [rtls, tls]
theorem Wd.pool {C : Addr} {F0 H H' : Hp} {ja : Addr} {al : List Nat} {ps : List (Nat × Nat)} {pool txl : Addr} {one : Nat} {c o : Side} (w : Wd C F0 H ja al ps pool txl one c o) (k : Kp [pool] H H') {ns : List Int} (hp : H' pool = some (.lst (zvs ns))) (hn : ns.length ≤ 10000) : Wd C F0 H' ja al ps pool txl one c o := by
  obtain ⟨⟨n1, n2, n3, n4, n5⟩, _⟩ := nd6 w.nd
  obtain ⟨fp, dc, d2⟩ := w.fr pool (by simp)
  obtain ⟨ns0, h0, _⟩ := w.hp
  have k' : ∀ {x : Addr} {v : HO}, x ≠ pool → H x = some v → H' x = some v := fun n e => k _ _ (by simpa using n) e
  have kt : ∀ t ys, H t = some (.tup ys) → H' t = some (.tup ys) := fun t ys h => k' (ne_of h h0 (by intro z; cases z)) h
  exact ⟨w.same.via k (by simpa using fp), w.pgc.keep (fun y hy u h => k' (fun q => dc (by rw [← q]; exact hy)) h) kt, w.pgo.keep (fun y hy u h => k' (fun q => d2 (by rw [← q]; exact hy)) h) kt, k' n2.symm w.cb, k' n3.symm w.ca, k' n4.symm w.ob, k' n5.symm w.oa, ⟨ns, hp, hn⟩, k' n1.symm w.ht, w.nd, w.fr, w.dis, w.frc, w.fro⟩
/-- what stands between two rounds of the law -/
structure LS (C : Addr) (F0 H : Hp) (ja : Addr) (al : List Nat) (ps : List (Nat × Nat)) (pool txl pgl bl fl : Addr) (k one : Nat) (c o : Side) : Prop where
  lt : one < 2
  w : Wd C F0 H ja al ps pool txl one c o
  gc : GoodS al k c
  go : GoodS al k o
  epg : F0 pgl = some (.lst (pr one (V.ref c.p) (V.ref o.p)))
  ebl : F0 bl = some (.lst (pr one (V.ref c.b) (V.ref o.b)))
  efl : F0 fl = some (.lst (pr one (V.ref c.a) (V.ref o.a)))
section
variable {C : Addr} {F0 H H' : Hp} {ja : Addr} {al : List Nat} {ps : List (Nat × Nat)} {pool txl pgl bl fl : Addr} {k one r : Nat} {c o : Side}
theorem LS.draw (h : LS C F0 H ja al ps pool txl pgl bl fl k one c o) {ns : List Int} (hn : ns.length ≤ 10000) : LS C F0 (upd H pool (.lst (zvs ns))) ja al ps pool txl pgl bl fl k one c o := ⟨h.lt, h.w.draw hn, h.gc, h.go, h.epg, h.ebl, h.efl⟩
theorem LS.on (h : LS C F0 H ja al ps pool txl pgl bl fl k one c o) (s : Same H H') : LS C F0 H' ja al ps pool txl pgl bl fl k one c o := ⟨h.lt, h.w.on s, h.gc, h.go, h.epg, h.ebl, h.efl⟩
theorem LS.swap (h : LS C F0 H ja al ps pool txl pgl bl fl k one c o) : LS C F0 H ja al ps pool txl pgl bl fl k (1 - one) o c :=
  ⟨by have := h.lt; omega, h.w.swap h.lt, h.go, h.gc, by rw [pr_swap h.lt]; exact h.epg, by rw [pr_swap h.lt]; exact h.ebl, by rw [pr_swap h.lt]; exact h.efl⟩
theorem LS.to (h : LS C F0 H ja al ps pool txl pgl bl fl k one c o) (hr : r < 2) : ∃ c o, LS C F0 H ja al ps pool txl pgl bl fl k r c o := by
  by_cases e : r = one
  · subst e; exact ⟨c, o, h⟩
  · have e2 : r = 1 - one := by have := h.lt; omega
    subst e2; exact ⟨o, c, h.swap⟩
theorem ix_pr {α : Type} {x y : α} (h : r < 2) : ixN (pr one x y).length ((r : Nat) : Int) = some r := by
  rw [pr_len]; unfold ixN
  rw [if_pos (by omega), if_pos (by omega)]; rfl
end
end Rj

set_option Elab.async false
set_option linter.all false
set_option maxRecDepth 100000
namespace Rj
open PySem L2 PyProof.Rows
/-- what makes an instance -/
structure Nw (P : Program) (w : World) (K : PySem.W.Frag) (mg : Str → Option Value) (base : Heap) (x : Str) (C : Addr) (ps : List Str) (k : Nat) (sp : Sp) : Prop where
  ex : ∃ f fd, Mk K C f ∧ mg x = some (.ref C) ∧ Binds K fd ps [] ∧ FnOk P w K mg base CX0 k f fd ps sp
theorem JAt.keep {C : Addr} {H H' : Hp} {a : Addr} {al : List Nat} {ps : List (Nat × Nat)} (h : JAt C H a al ps) (k : ∀ x v, H x = some v → (∀ ns, v ≠ .lst (zvs ns)) → H' x = some v) : JAt C H' a al ps := by
  obtain ⟨lt, dr, dn, F⟩ := h.at_
  obtain ⟨dx, tp, lg, as, kr, kn, h1, h2, h3, h4, h5, h6, h7, h8, h9⟩ := F.ex
  have kt : ∀ t xs, H t = some (.tup xs) → H' t = some (.tup xs) := fun t xs e => k _ _ e fun ns z => by cases z
  refine ⟨h.hal, h.jp, h.few, lt, dr, dn, dx, tp, lg, as, kr, kn, k _ _ h1 (fun ns z => by cases z), kt _ _ h2, h3.keep kt, k _ _ h4 (fun ns z => ?_), k _ _ h5 (fun ns z => by cases z), h6, k _ _ h7 (fun ns z => by cases z), h8, h9⟩
  injection z with z
  have hl : 0 < (txs al ps).length := by
    have := h.hal.one
    simp [txs]; omega
  obtain ⟨t, r, e⟩ : ∃ t r, txs al ps = t :: r := by
    cases e : txs al ps with
    | nil => rw [e] at hl; cases hl
    | cons t r => exact ⟨t, r, rfl⟩
  rw [e] at z
  cases ns with
  | nil => cases z
  | cons n ns => injection z with z; cases z
def spLaw (K : PySem.W.Frag) : Sp := fun vs H Q _ => ∃ (a : Addr) (ns : List Int), vs = [.ref a] ∧ SqL K H a (zvs ns) ∧ ns.length ≤ 63 ∧ ∀ H', Q (.bl true) H'
theorem scLaw : FnScope ["_law_script", "_law_pool_here", "_law_alphabet_here", "_law_made", "_law_joins", "_law_texts", "_law_pages", "_law_behind", "_law_ahead", "_law_k", "_law_one", "_law_page", "_law_text_here", "_law_back", "_law_forth", "_law_way", "_law_at", "_law_more", "_law_many", "_law_other"] ["_law_script"] (defScope sLaw) := ⟨rfl, rfl, rfl, by decide +kernel, rfl, by decide +kernel, by decide +kernel⟩
section
variable {P : Program} {w : World} {K : PySem.W.Frag} {mg : Str → Option Value} {base : Heap}
set_option maxHeartbeats 0 in
theorem ok_law {CJ C f : Addr} {fd : FuncData} (F : Fun K "law" "law" sLaw f fd) (T : Gb K mg) (TP : TP K C)
    (NJ : Nw P w K mg base "Joins" CJ ["self", "alphabet", "pairs"] 5 (spJInit CJ)) (NP : Nw P w K mg base "Page" C ["self", "joins", "text"] 10 (spPInit CJ C))
    (D_law_pool : Df P w K mg base "_law_pool" ["_law_script", "_law_many"] 1 (spPool K)) (D_law_draw : Df P w K mg base "_law_draw" ["_law_pool_here", "_law_many"] 1 spDraw) (D_law_alphabet : Df P w K mg base "_law_alphabet" ["_law_pool_here"] 2 spLAl)
    (D_law_pairs : Df P w K mg base "_law_pairs" ["_law_pool_here", "_law_alphabet_here", "_law_most"] 3 spLPairs) (D_law_text : Df P w K mg base "_law_text" ["_law_pool_here", "_law_alphabet_here", "_law_texts", "_law_most"] 2 spLText)
    (D_law_same : Df P w K mg base "_law_same" ["_law_told", "_law_due"] 2 spSame) (D_law_shown : Df P w K mg base "_law_shown" ["_law_page", "_law_pairs_here", "_law_alphabet_here", "_law_text_here"] 7 (spShown CJ C))
    (Dcut_row : Mt P w K mg base C "cut_row" ["self"] 6 (spCutRow CJ C)) (Dput_in : Mt P w K mg base C "put_in" ["self", "at", "text"] 11 (spPutIn CJ C)) (Dtake_out : Mt P w K mg base C "take_out" ["self", "at", "many"] 11 (spTakeOut CJ C))
    (Dundo : Mt P w K mg base C "undo" ["self"] 10 (spUndo CJ C)) (Dredo : Mt P w K mg base C "redo" ["self"] 10 (spRedo CJ C)) : FnOk P w K mg base CX0 12 f fd ["_law_script"] (spLaw K) := by
  refine F.ok scLaw (fun vs H Q E h => ?_) (fun cdv A outer s H vs Q E hr h => ?_)
  · obtain ⟨_, _, rfl, _⟩ := h
    rfl
  · obtain ⟨a0, ns0, rfl, ha0, hl0, k⟩ := h
    obtain ⟨fJ, fdJ, MJ, gJ, bJ, FJ⟩ := NJ.ex
    obtain ⟨fP, fdP, MP, gP, bP, FP⟩ := NP.ex
    refine ⟨_, (pss_cons (ps_set (i := 1) scLaw.nd rfl (Or.inl rfl) (pe_df D_law_pool (hr.mono (by decide)) (pa_cons (pv 0) (pa_cons pe_int pa_nil))))
      (pss_cons (ps_set (i := 2) scLaw.nd rfl (Or.inl rfl) (pe_df D_law_alphabet (hr.mono (by decide)) (pa_cons (pv 1) pa_nil)))
      (pss_cons (ps_set (i := 3) scLaw.nd rfl (Or.inl rfl) (pe_df D_law_pairs (hr.mono (by decide)) (pa_cons (pv 1) (pa_cons (pv 2) (pa_cons (pe_df D_law_draw (hr.mono (by decide)) (pa_cons (pv 1) (pa_cons pe_int pa_nil))) pa_nil)))))
      (pss_cons (ps_set (i := 4) scLaw.nd rfl (Or.inl rfl) (pe_make MJ FJ (hr.mono (by decide)) rfl gJ bJ .nil pass0 (pa_cons (pv 2) (pa_cons (pe_callTy call_list_of (by rfl) T.list (by decide +kernel) (pa_cons (pe_ix ix_tup (pv 3) pe_int (fun _ _ => rfl)) pa_nil)) pa_nil))))
      (pss_cons (ps_set (i := 5) scLaw.nd rfl (Or.inl rfl) (pe_lst (pa_cons (pe_df D_law_text (hr.mono (by decide)) (pa_cons (pv 1) (pa_cons (pv 2) (pa_cons (pe_ix ix_tup (pv 3) pe_int (fun _ _ => rfl)) (pa_cons pe_int pa_nil))))) (pa_cons (pe_df D_law_text (hr.mono (by decide)) (pa_cons (pv 1) (pa_cons (pv 2) (pa_cons (pe_ix ix_tup (pv 3) pe_int (fun _ _ => rfl)) (pa_cons pe_int pa_nil))))) pa_nil))))
      (pss_cons (ps_set (i := 6) scLaw.nd rfl (Or.inl rfl) (pe_lst (pa_cons (pe_make MP FP (hr.mono (by decide)) rfl gP bP .nil pass0 (pa_cons (pv 4) (pa_cons (pe_ix ix_list (pv 5) pe_int (fun _ _ => rfl)) pa_nil))) (pa_cons (pe_make MP FP (hr.mono (by decide)) rfl gP bP .nil pass0 (pa_cons (pv 4) (pa_cons (pe_ix ix_list (pv 5) pe_int (fun _ _ => rfl)) pa_nil))) pa_nil))))
      (pss_cons (ps_set (i := 7) scLaw.nd rfl (Or.inl rfl) (pe_lst (pa_cons (pe_lst pa_nil) (pa_cons (pe_lst pa_nil) pa_nil))))
      (pss_cons (ps_set (i := 8) scLaw.nd rfl (Or.inl rfl) (pe_lst (pa_cons (pe_lst pa_nil) (pa_cons (pe_lst pa_nil) pa_nil))))
      (pss_cons (ps_for PassesOwn.never rfl (pi_range1 (by rfl) T.range (pa_cons (pe_df D_law_draw (hr.mono (by decide)) (pa_cons (pv 1) (pa_cons (pe_ix ix_list (pe_lst (pa_cons pe_int (pa_cons pe_int pa_nil))) (pe_callTy call_int1 (by rfl) T.int (by decide +kernel) (pa_cons (pe_cmpR op_gt (pe_callB call_len_seq (by rfl) T.len PySem.boot_len (pa_cons (pe_ix ix_tup (pv 3) pe_int (fun _ _ => rfl)) pa_nil)) pe_int (nomark _)) pa_nil)) (fun _ _ => rfl)) pa_nil))) pa_nil)) (pg_name (i := 9) scLaw.nd rfl (Or.inl rfl))
        (pss_cons (ps_set (i := 10) scLaw.nd rfl (Or.inl rfl) (pe_df D_law_draw (hr.mono (by decide)) (pa_cons (pv 1) (pa_cons pe_int pa_nil))))
          (pss_cons (ps_set (i := 11) scLaw.nd rfl (Or.inl rfl) (pe_ix ix_list (pv 6) (pv 10) (fun _ _ => rfl)))
          (pss_cons (ps_set (i := 12) scLaw.nd rfl (Or.inl rfl) (pe_ix ix_list (pv 5) (pv 10) (fun _ _ => rfl)))
          (pss_cons (ps_set (i := 13) scLaw.nd rfl (Or.inl rfl) (pe_ix ix_list (pv 7) (pv 10) (fun _ _ => rfl)))
          (pss_cons (ps_set (i := 14) scLaw.nd rfl (Or.inl rfl) (pe_ix ix_list (pv 8) (pv 10) (fun _ _ => rfl)))
          (pss_cons (ps_set (i := 15) scLaw.nd rfl (Or.inl rfl) (pe_df D_law_draw (hr.mono (by decide)) (pa_cons (pv 1) (pa_cons pe_int pa_nil))))
          (pss_cons (ps_if (PW.pt (pw_and (pt_cmpR op_eq (pv 15) pe_int (nomark _)) (pw_and1 (pt_cmpR op_gt (pe_callB call_len_seq (by rfl) T.len PySem.boot_len (pa_cons (pv 13) pa_nil)) pe_int (nomark _)))))
            (pss_cons (ps_expr (pe_mt0 Dundo TP.cl (hr.mono (by decide)) (pv 11)))
              (pss_cons (ps_expr (pe_bm PySem.F.plainAttrs_list PySem.F.slot_list_append PySem.F.type_list_append mt_append (pv 14) (pa_cons (pv 12) pa_nil)))
              (pss_one (ps_asg (pe_bm0 PySem.F.plainAttrs_list PySem.F.slot_list_pop PySem.F.type_list_pop mt_pop (pv 13)) (pg_sub (pv 5) (pv 10) set_list)))))
            (pss_one (ps_if (PW.pt (pw_and (pt_cmpR op_eq (pv 15) pe_int (nomark _)) (pw_and1 (pt_cmpR op_gt (pe_callB call_len_seq (by rfl) T.len PySem.boot_len (pa_cons (pv 14) pa_nil)) pe_int (nomark _)))))
                (pss_cons (ps_expr (pe_mt0 Dredo TP.cl (hr.mono (by decide)) (pv 11)))
                  (pss_cons (ps_expr (pe_bm PySem.F.plainAttrs_list PySem.F.slot_list_append PySem.F.type_list_append mt_append (pv 13) (pa_cons (pv 12) pa_nil)))
                  (pss_one (ps_asg (pe_bm0 PySem.F.plainAttrs_list PySem.F.slot_list_pop PySem.F.type_list_pop mt_pop (pv 14)) (pg_sub (pv 5) (pv 10) set_list)))))
                (pss_cons (ps_set (i := 16) scLaw.nd rfl (Or.inl rfl) (pe_df D_law_draw (hr.mono (by decide)) (pa_cons (pv 1) (pa_cons (pe_op op_add (pe_callB call_len_str (by rfl) T.len PySem.boot_len (pa_cons (pv 12) pa_nil)) pe_int) pa_nil))))
                  (pss_cons (ps_set (i := 17) scLaw.nd rfl (Or.inl rfl) (pe_op op_add_str (pe_ix ix_str (pv 2) (pe_df D_law_draw (hr.mono (by decide)) (pa_cons (pv 1) (pa_cons (pe_callB call_len_str (by rfl) T.len PySem.boot_len (pa_cons (pv 2) pa_nil)) pa_nil))) (fun _ _ => rfl)) (pe_df D_law_text (hr.mono (by decide)) (pa_cons (pv 1) (pa_cons (pv 2) (pa_cons (pe_ix ix_tup (pv 3) pe_int (fun _ _ => rfl)) (pa_cons pe_int pa_nil)))))))
                  (pss_cons (ps_set (i := 18) scLaw.nd rfl (Or.inl rfl) (pe_callB (call_min2 rfl) (by rfl) T.min (by decide +kernel) (pa_cons (pe_op op_add pe_int (pe_df D_law_draw (hr.mono (by decide)) (pa_cons (pv 1) (pa_cons pe_int pa_nil)))) (pa_cons (pe_op op_sub (pe_callB call_len_str (by rfl) T.len PySem.boot_len (pa_cons (pv 12) pa_nil)) (pv 16)) pa_nil))))
                  (pss_cons (ps_if (PW.pt (pw_and (pt_cmpR op_lt (pv 15) pe_int (nomark _)) (pw_and1 (pt_cmpR op_lt (pe_callB call_len_str (by rfl) T.len PySem.boot_len (pa_cons (pv 12) pa_nil)) pe_int (nomark _)))))
                    (pss_cons (ps_expr (pe_mt Dput_in TP.cl (hr.mono (by decide)) (pv 11) (pa_cons (pv 16) (pa_cons (pv 17) pa_nil))))
                      (pss_one (ps_asg (pe_op op_add_str (pe_op op_add_str (pe_slice sl_str (pv 12) po_none (po_some (pv 16))) (pv 17)) (pe_slice sl_str (pv 12) (po_some (pv 16)) po_none)) (pg_sub (pv 5) (pv 10) set_list))))
                    (pss_one (ps_if (pt_cmpR op_gt (pv 18) pe_int (nomark _))
                        (pss_cons (ps_expr (pe_mt Dtake_out TP.cl (hr.mono (by decide)) (pv 11) (pa_cons (pv 16) (pa_cons (pv 18) pa_nil))))
                          (pss_one (ps_asg (pe_op op_add_str (pe_slice sl_str (pv 12) po_none (po_some (pv 16))) (pe_slice sl_str (pv 12) (po_some (pe_op op_add (pv 16) (pv 18))) po_none)) (pg_sub (pv 5) (pv 10) set_list))))
                        pss_nil)))
                  (pss_one (ps_if (pt_cmpR op_ne (pe_ix ix_list (pv 5) (pv 10) (fun _ _ => rfl)) (pv 12) (nomark _))
                    (pss_cons (ps_expr (pe_bm PySem.F.plainAttrs_list PySem.F.slot_list_append PySem.F.type_list_append mt_append (pv 13) (pa_cons (pv 12) pa_nil)))
                      (pss_one (ps_expr (pe_bm0 PySem.F.plainAttrs_list PySem.F.slot_list_clear PySem.F.type_list_clear mt_clear (pv 14)))))
                    pss_nil)))))))))
          (pss_cons (ps_if (pt_not (pt_val (pe_df D_law_shown (hr.mono (by decide)) (pa_cons (pv 11) (pa_cons (pe_ix ix_tup (pv 3) pe_int (fun _ _ => rfl)) (pa_cons (pv 2) (pa_cons (pe_ix ix_list (pv 5) (pv 10) (fun _ _ => rfl)) pa_nil)))))))
            (pss_one (ps_ret pe_bl))
            pss_nil)
          (pss_one (ps_if (pt_cmpR op_eq (pe_op op_mod (pv 9) pe_int) pe_int (nomark _))
            (pss_cons (ps_set (i := 19) scLaw.nd rfl (Or.inl rfl) (pe_ix ix_list (pv 6) (pe_op op_sub pe_int (pv 10)) (fun _ _ => rfl)))
              (pss_cons (ps_if (pt_not (pt_val (pe_df D_law_same (hr.mono (by decide)) (pa_cons (pe_mt0 Dcut_row TP.cl (hr.mono (by decide)) (pe_make MP FP (hr.mono (by decide)) rfl gP bP .nil pass0 (pa_cons (pv 4) (pa_cons (pe_ix ix_list (pv 5) (pv 10) (fun _ _ => rfl)) pa_nil)))) (pa_cons (pe_mt0 Dcut_row TP.cl (hr.mono (by decide)) (pv 11)) pa_nil)))))
                (pss_one (ps_ret pe_bl))
                pss_nil)
              (pss_one (ps_if (pt_not (pt_val (pe_df D_law_shown (hr.mono (by decide)) (pa_cons (pv 19) (pa_cons (pe_ix ix_tup (pv 3) pe_int (fun _ _ => rfl)) (pa_cons (pv 2) (pa_cons (pe_ix ix_list (pv 5) (pe_op op_sub pe_int (pv 10)) (fun _ _ => rfl)) pa_nil)))))))
                (pss_one (ps_ret pe_bl))
                pss_nil))))
            pss_nil)))))))))))
      (pss_one (ps_ret pe_bl))))))))))), ?_⟩
    refine ⟨_, rfl, a0, ns0, rfl, ha0, hl0, fun H1 pool ns1 s1 hp1 hn1 => ?_⟩
    refine ⟨_, rfl, pool, ns1, rfl, hp1, hn1, fun H2 al ns2 hA kp2 hp2 hn2 => ?_⟩
    refine ⟨_, rfl, _, rfl, _, rfl, pool, ns2, 11, rfl, hp2, by decide, by omega, fun ns3 m hn3 hm => ?_⟩
    refine ⟨pool, ns3, al, m, rfl, upd_same, by omega, hA, by omega, fun H3 t pl tl as ps Ts ns4 kp3 hp3 hn4 ht hpl hps J hfew htl hT0 hT nt npl ntl => ?_⟩
    have hal1 := hA.one
    have hal2 := hA.many
    have hal : (tS al).length = al.length := tS_len al
    refine ⟨_, rfl, _, rfl, t, _, _, _, rfl, rfl, SqT.of ht, rfl, pl, _, rfl, .inl (SqL.of hpl), fun l hl => ?_⟩
    intro ja dxj hja hdxj hnej
    have s4 : Same H3 (upd H3 l (.lst (as.map V.ref))) := Same.new hl
    have l4 : (upd H3 l (.lst (as.map V.ref))) l = some (.lst (as.map V.ref)) := upd_same
    generalize upd H3 l (.lst (as.map V.ref)) = H4 at s4 l4 hja hdxj ⊢
    refine ⟨H4, ja, dxj, l, as, al, ps, rfl, (Same.new hdxj).put hja, hja, upd_same, l4, hps.same s4, hA, J, by omega, fun H5 s5 J5 => ⟨rfl, ?_⟩⟩
    have s35 : Same H3 H5 := s4.trans s5
    have hp5 := s35 _ _ hp3
    -- what stays as it is
    have hG : Same (frm [pool] H5) H5 := frm_same
    have gp : (frm [pool] H5) pool = none := frm_in (by simp)
    have goff : ∀ {x : Addr} {v : HO}, x ≠ pool → H5 x = some v → (frm [pool] H5) x = some v := fun n e => by rw [frm_out (by simpa using n)]; exact e
    have gJ5 : JAt CJ (frm [pool] H5) ja al ps := J5.keep fun x v e n => goff (fun q => n ns4 (by rw [q, hp5] at e; exact (Option.some.inj e).symm)) e
    have gt := goff nt.symm (s35 _ _ ht)
    have gpl := goff npl.symm (s35 _ _ hpl)
    have gtl := goff ntl.symm (s35 _ _ htl)
    have gps : PairsAt (frm [pool] H5) as ps := hps.keep fun u xs e => goff (ne_of (s35 _ _ e) hp5 (by intro z; cases z)) (s35 _ _ e)
    generalize frm [pool] H5 = G at hG gp goff gJ5 gt gpl gtl gps
    clear goff J5 hl l4 s4 s5 s35 hja hdxj hnej ht hpl htl hps kp2 kp3 hp1 hp2 hp3 s1 ha0
    -- the texts
    refine ⟨_, rfl, _, rfl, _, rfl, t, _, _, _, rfl, rfl, SqT.of (hG _ _ gt), rfl, pool, tl, ns4, al, Ts, 36, rfl, hp5, hn4, ntl, hG _ _ gtl, hT0, hT, hA, by decide, fun H6 L0 ns6 hL0 hl0 kp6 hp6 hn6 => ?_⟩
    have hG6 : Same G H6 := hG.via kp6 (by simpa using gp)
    refine ⟨_, rfl, _, rfl, _, rfl, t, _, _, _, rfl, rfl, SqT.of (hG6 _ _ gt), rfl, pool, tl, ns6, al, Ts, 36, rfl, hp6, hn6, ntl, hG6 _ _ gtl, hT0, hT, hA, by decide, fun H7 L1 ns7 hL1 hl1 kp7 hp7 hn7 => ?_⟩
    have hG7 : Same G H7 := hG6.via kp7 (by simpa using gp)
    refine ⟨by show 2 ≤ sizeLine; decide, fun txl htxl => ?_⟩
    have gtxl : G txl = none := hG7.free htxl
    have npt : pool ≠ txl := ne_of_none hp7 htxl
    have hG8 : Same G (upd H7 txl (.lst (pr 0 (V.str (tx al L0)) (V.str (tx al L1))))) := hG7.put gtxl
    have hp8 : (upd H7 txl (.lst (pr 0 (V.str (tx al L0)) (V.str (tx al L1))))) pool = some (.lst (zvs ns7)) := by rw [upd_ne npt]; exact hp7
    have ht8 : (upd H7 txl (.lst (pr 0 (V.str (tx al L0)) (V.str (tx al L1))))) txl = some (.lst (pr 0 (V.str (tx al L0)) (V.str (tx al L1)))) := upd_same
    refine gName_at ?_
    dsimp only
    rw [show (HO.lst [V.str (tx al L0), V.str (tx al L1)]) = HO.lst (pr 0 (V.str (tx al L0)) (V.str (tx al L1))) from rfl]
    generalize upd H7 txl (.lst (pr 0 (V.str (tx al L0)) (V.str (tx al L1)))) = H8 at hG8 hp8 ht8 ⊢
    clear hp7 hp6 hp5 kp6 kp7 htxl hG hG6 hG7
    -- the pages
    refine ⟨_, rfl, _, rfl, txl, _, _, _, rfl, rfl, SqL.of ht8, rfl, fun p0 dx0 hp0 hdx0 hne0 => ?_⟩
    refine ⟨H8, p0, dx0, ja, al, ps, L0, rfl, (Same.new hdx0).put hp0, hp0, upd_same, gJ5.same hG8, hL0, by omega, fun H9 W0 => ⟨rfl, ?_⟩⟩
    have s9 := W0.same
    refine ⟨_, rfl, _, rfl, txl, _, _, _, rfl, rfl, SqL.of (s9 _ _ ht8), rfl, fun p1 dx1 hp1 hdx1 hne1 => ?_⟩
    refine ⟨H9, p1, dx1, ja, al, ps, L1, rfl, (Same.new hdx1).put hp1, hp1, upd_same, gJ5.same (hG8.trans s9), hL1, by omega, fun H10 W1 => ⟨rfl, ?_⟩⟩
    have s10 := W1.same
    have g0 := W0.own
    have g1 := W1.own
    obtain ⟨le0, ld0, lu0, q1, q2, q3, PF0⟩ := W0.at_
    obtain ⟨le1, ld1, lu1, r1, r2, r3, PF1⟩ := W1.at_
    have P0 := PF0.same s10
    have fil0 : ∀ x ∈ [p0, le0, ld0, lu0], ∃ v, H9 x = some v ∧ ∀ xs, v ≠ .tup xs := (PG.mk (s := ⟨p0, pool, pool, [p0, le0, ld0, lu0], L0, L0, [], [], [], []⟩) ⟨le0, ld0, lu0, rfl, PF0⟩).filled
    have no0 : ∀ x ∈ [p0, le0, ld0, lu0], H8 x = none := fun x hx => by
      simp only [List.mem_cons, List.not_mem_nil, or_false] at hx
      rcases hx with rfl | rfl | rfl | rfl
      · exact g0
      · exact q1
      · exact q2
      · exact q3
    have no1 : ∀ x ∈ [p1, le1, ld1, lu1], H9 x = none := fun x hx => by
      simp only [List.mem_cons, List.not_mem_nil, or_false] at hx
      rcases hx with rfl | rfl | rfl | rfl
      · exact g1
      · exact r1
      · exact r2
      · exact r3
    have fil1 : ∀ x ∈ [p1, le1, ld1, lu1], ∃ v, H10 x = some v ∧ ∀ xs, v ≠ .tup xs := (PG.mk (s := ⟨p1, pool, pool, [p1, le1, ld1, lu1], L1, L1, [], [], [], []⟩) ⟨le1, ld1, lu1, rfl, PF1⟩).filled
    have hp10 := s10 _ _ (s9 _ _ hp8)
    have ht10 := s10 _ _ (s9 _ _ ht8)
    have hG10 : Same G H10 := hG8.trans (s9.trans s10)
    have fil0' : ∀ x ∈ [p0, le0, ld0, lu0], ∃ v, H10 x = some v := fun x hx => let ⟨v, e, _⟩ := fil0 x hx; ⟨v, s10 _ _ e⟩
    have d8 : ∀ {x : Addr} {v : HO}, H8 x = some v → x ∉ [p0, le0, ld0, lu0] ∧ x ∉ [p1, le1, ld1, lu1] := fun {x v} e => ⟨fun q => (by rw [no0 x q] at e; cases e), fun q => (by have := s9 _ _ e; rw [no1 x q] at this; cases this)⟩
    refine ⟨by show 2 ≤ sizeLine; decide, fun pgl hpgl => ?_⟩
    have s11 : Same H10 (upd H10 pgl (.lst (pr 0 (V.ref p0) (V.ref p1)))) := Same.new hpgl
    have e11 : (upd H10 pgl (.lst (pr 0 (V.ref p0) (V.ref p1)))) pgl = some (.lst (pr 0 (V.ref p0) (V.ref p1))) := upd_same
    refine gName_at ?_
    dsimp only
    rw [show (HO.lst [V.ref p0, V.ref p1]) = HO.lst (pr 0 (V.ref p0) (V.ref p1)) from rfl]
    generalize upd H10 pgl (.lst (pr 0 (V.ref p0) (V.ref p1))) = H11 at s11 e11 ⊢
    refine ⟨Nat.zero_le _, fun b0 hb0 => ⟨Nat.zero_le _, fun b1 hb1 => ⟨by show 2 ≤ sizeLine; decide, fun bl hbl => ?_⟩⟩⟩
    have t1 := Same.new (o := .lst []) hb0
    have t2 := Same.new (o := .lst []) hb1
    have t3 := Same.new (o := .lst (pr 0 (V.ref b0) (V.ref b1))) hbl
    have nb0 : b0 ≠ b1 := ne_of_none upd_same hb1
    have eb0 := t3 _ _ (t2 _ _ (show (upd H11 b0 (.lst [])) b0 = some (.lst []) from upd_same))
    have eb1 := t3 _ _ (show (upd (upd H11 b0 (.lst [])) b1 (.lst [])) b1 = some (.lst []) from upd_same)
    have ebl : (upd (upd (upd H11 b0 (.lst [])) b1 (.lst [])) bl (.lst (pr 0 (V.ref b0) (V.ref b1)))) bl = some (.lst (pr 0 (V.ref b0) (V.ref b1))) := upd_same
    have s12 : Same H11 _ := t1.trans (t2.trans t3)
    have fb1 : H11 b1 = none := t1.free hb1
    have fbl : H11 bl = none := t1.free (t2.free hbl)
    refine gName_at ?_
    dsimp only
    rw [show (HO.lst [V.ref b0, V.ref b1]) = HO.lst (pr 0 (V.ref b0) (V.ref b1)) from rfl]
    generalize upd (upd (upd H11 b0 (.lst [])) b1 (.lst [])) bl (.lst (pr 0 (V.ref b0) (V.ref b1))) = H12 at eb0 eb1 ebl s12 ⊢
    clear t1 t2 t3
    refine ⟨Nat.zero_le _, fun c0 hc0 => ⟨Nat.zero_le _, fun c1 hc1 => ⟨by show 2 ≤ sizeLine; decide, fun fl hfl => ?_⟩⟩⟩
    have t1 := Same.new (o := .lst []) hc0
    have t2 := Same.new (o := .lst []) hc1
    have t3 := Same.new (o := .lst (pr 0 (V.ref c0) (V.ref c1))) hfl
    have nc0 : c0 ≠ c1 := ne_of_none upd_same hc1
    have ec0 := t3 _ _ (t2 _ _ (show (upd H12 c0 (.lst [])) c0 = some (.lst []) from upd_same))
    have ec1 := t3 _ _ (show (upd (upd H12 c0 (.lst [])) c1 (.lst [])) c1 = some (.lst []) from upd_same)
    have efl : (upd (upd (upd H12 c0 (.lst [])) c1 (.lst [])) fl (.lst (pr 0 (V.ref c0) (V.ref c1)))) fl = some (.lst (pr 0 (V.ref c0) (V.ref c1))) := upd_same
    have s13 : Same H12 _ := t1.trans (t2.trans t3)
    have fc1 : H12 c1 = none := t1.free hc1
    have ffl : H12 fl = none := t1.free (t2.free hfl)
    refine gName_at ?_
    dsimp only
    rw [show (HO.lst [V.ref c0, V.ref c1]) = HO.lst (pr 0 (V.ref c0) (V.ref c1)) from rfl]
    generalize upd (upd (upd H12 c0 (.lst [])) c1 (.lst [])) fl (.lst (pr 0 (V.ref c0) (V.ref c1))) = H13 at ec0 ec1 efl s13 ⊢
    clear t1 t2 t3
    have s10_13 : Same H10 H13 := s11.trans (s12.trans s13)
    have s11_13 : Same H11 H13 := s12.trans s13
    -- the world
    have hW : ∃ F0 : Hp, Same G F0 ∧ F0 pgl = some (.lst (pr 0 (V.ref p0) (V.ref p1))) ∧ F0 bl = some (.lst (pr 0 (V.ref b0) (V.ref b1))) ∧ F0 fl = some (.lst (pr 0 (V.ref c0) (V.ref c1))) ∧
        Wd C F0 H13 ja al ps pool txl 0 ⟨p0, b0, c0, [p0, le0, ld0, lu0], L0, L0, [], [], [], []⟩ ⟨p1, b1, c1, [p1, le1, ld1, lu1], L1, L1, [], [], [], []⟩ := by
      have hG11 := hG10.trans s11
      have hG12 := hG11.trans s12
      have n8 : ∀ x ∈ [p0, le0, ld0, lu0], G x = none := fun x hx => hG8.free (no0 x hx)
      have n9 : ∀ x ∈ [p1, le1, ld1, lu1], G x = none := fun x hx => hG8.free (s9.free (no1 x hx))
      have o11 : ∀ {x : Addr}, H10 x = none → x ∉ [p0, le0, ld0, lu0] ∧ x ∉ [p1, le1, ld1, lu1] := fun {x} e => ⟨fun q => (by obtain ⟨v, hv⟩ := fil0' x q; rw [hv] at e; cases e), fun q => (by obtain ⟨v, hv, _⟩ := fil1 x q; rw [hv] at e; cases e)⟩
      have hp11 := s11 _ _ hp10
      have ht11 := s11 _ _ ht10
      have hp12 := s12 _ _ hp11
      have ht12 := s12 _ _ ht11
      have e12 := s12 _ _ e11
      have gb0 := hG11.free hb0
      have gb1 := hG11.free fb1
      have gc0 := hG12.free hc0
      have gc1 := hG12.free fc1
      have xb0 := o11 (s11.free hb0)
      have xb1 := o11 (s11.free fb1)
      have xc0 := o11 (s11.free (s12.free hc0))
      have xc1 := o11 (s11.free (s12.free fc1))
      have xpg := o11 hpgl
      have xbl := o11 (s11.free fbl)
      have xfl := o11 (s11.free (s12.free ffl))
      have m1 : pool ≠ b0 := ne_of_none hp11 hb0
      have m2 : pool ≠ c0 := ne_of_none hp12 hc0
      have m3 : pool ≠ b1 := ne_of_none hp11 fb1
      have m4 : pool ≠ c1 := ne_of_none hp12 fc1
      have m5 : txl ≠ b0 := ne_of_none ht11 hb0
      have m6 : txl ≠ c0 := ne_of_none ht12 hc0
      have m7 : txl ≠ b1 := ne_of_none ht11 fb1
      have m8 : txl ≠ c1 := ne_of_none ht12 fc1
      have m9 : b0 ≠ c0 := ne_of_none eb0 hc0
      have m10 : b0 ≠ c1 := ne_of_none eb0 fc1
      have m11 : b1 ≠ c0 := ne_of_none eb1 hc0
      have m12 : b1 ≠ c1 := ne_of_none eb1 fc1
      have nnil : ∀ {x y : Addr}, (HO.lst (pr 0 (V.ref x) (V.ref y))) ≠ .lst [] := fun z => by cases z
      have z1 : ∀ z ∈ [pool, txl, b0, c0, b1, c1], pgl ≠ z ∧ bl ≠ z ∧ fl ≠ z := by
        intro z hz
        simp only [List.mem_cons, List.not_mem_nil, or_false] at hz
        rcases hz with rfl | rfl | rfl | rfl | rfl | rfl
        · exact ⟨(ne_of_none hp10 hpgl).symm, (ne_of_none hp11 fbl).symm, (ne_of_none hp12 ffl).symm⟩
        · exact ⟨(ne_of_none ht10 hpgl).symm, (ne_of_none ht11 fbl).symm, (ne_of_none ht12 ffl).symm⟩
        · exact ⟨ne_of_none e11 hb0, ne_of ebl eb0 nnil, (ne_of_none eb0 ffl).symm⟩
        · exact ⟨ne_of_none e12 hc0, ne_of_none ebl hc0, ne_of efl ec0 nnil⟩
        · exact ⟨ne_of_none e11 fb1, ne_of ebl eb1 nnil, (ne_of_none eb1 ffl).symm⟩
        · exact ⟨ne_of_none e12 fc1, ne_of_none ebl fc1, ne_of efl ec1 nnil⟩
      have out : ∀ {x : Addr}, (∀ z ∈ [pool, txl, b0, c0, b1, c1], x ≠ z) → x ∉ [p0, le0, ld0, lu0] ∧ x ∉ [p1, le1, ld1, lu1] → x ∉ [pool, txl, b0, c0, b1, c1] ++ ([p0, le0, ld0, lu0] ++ [p1, le1, ld1, lu1]) := fun {x} h1 h2 q => by
        rcases List.mem_append.mp q with q | q
        · exact h1 x q rfl
        · exact (List.mem_append.mp q).elim h2.1 h2.2
      refine ⟨frm ([pool, txl, b0, c0, b1, c1] ++ ([p0, le0, ld0, lu0] ++ [p1, le1, ld1, lu1])) H13, fun b u e => ?_, ?_, ?_, ?_, frm_same, ⟨le0, ld0, lu0, rfl, P0.same s10_13⟩, ⟨le1, ld1, lu1, rfl, PF1.same s10_13⟩, s13 _ _ eb0, ec0, s13 _ _ eb1, ec1, ⟨ns7, s10_13 _ _ hp10, hn7⟩, s10_13 _ _ ht10, ?_, fun x hx => ⟨frm_in (List.mem_append.mpr (.inl hx)), ?_⟩, fun x hx hy => ?_, fun x hx => frm_in (List.mem_append.mpr (.inr (List.mem_append.mpr (.inl hx)))), fun x hx => frm_in (List.mem_append.mpr (.inr (List.mem_append.mpr (.inr hx))))⟩
      · rw [frm_out]
        · exact (hG12.trans s13) _ _ e
        · intro q
          have gz : G b = none := by
            rcases List.mem_append.mp q with q | q
            · simp only [List.mem_cons, List.not_mem_nil, or_false] at q
              rcases q with rfl | rfl | rfl | rfl | rfl | rfl
              · exact gp
              · exact gtxl
              · exact gb0
              · exact gc0
              · exact gb1
              · exact gc1
            · exact (List.mem_append.mp q).elim (n8 b) (n9 b)
          rw [gz] at e; cases e
      · rw [frm_out (out (fun z hz => (z1 z hz).1) xpg)]; exact s11_13 _ _ e11
      · rw [frm_out (out (fun z hz => (z1 z hz).2.1) xbl)]; exact s13 _ _ ebl
      · rw [frm_out (out (fun z hz => (z1 z hz).2.2) xfl)]; exact efl
      · show [pool, txl, b0, c0, b1, c1].Nodup
        simp only [List.nodup_cons, List.mem_cons, List.not_mem_nil, or_false, not_or, List.nodup_nil, and_true, not_false_eq_true]
        exact ⟨⟨npt, m1, m2, m3, m4⟩, ⟨m5, m6, m7, m8⟩, ⟨m9, nb0, m10⟩, ⟨m11.symm, nc0⟩, m12⟩
      · have hx' : x ∈ [pool, txl, b0, c0, b1, c1] := hx
        simp only [List.mem_cons, List.not_mem_nil, or_false] at hx'
        rcases hx' with rfl | rfl | rfl | rfl | rfl | rfl
        · exact d8 hp8
        · exact d8 ht8
        · exact xb0
        · exact xc0
        · exact xb1
        · exact xc1
      · obtain ⟨v, hv, _⟩ := fil0 x hx
        rw [no1 x hy] at hv; cases hv
    obtain ⟨F0, hGF, epg, ebl', efl', W⟩ := hW
    have gJ := gJ5.same hGF
    have gt' := hGF _ _ gt
    have gpl' := hGF _ _ gpl
    have gtl' := hGF _ _ gtl
    have gps' := gps.same hGF
    have GA : GoodS al 0 ⟨p0, b0, c0, [p0, le0, ld0, lu0], L0, L0, [], [], [], []⟩ := ⟨rfl, hL0, by show L0.length ≤ 80; omega, (fun M h => by cases h), (fun M h => by cases h), trivial, trivial, Nat.le_refl _⟩
    have GB : GoodS al 0 ⟨p1, b1, c1, [p1, le1, ld1, lu1], L1, L1, [], [], [], []⟩ := ⟨rfl, hL1, by show L1.length ≤ 80; omega, (fun M h => by cases h), (fun M h => by cases h), trivial, trivial, Nat.le_refl _⟩
    have S00 : LS C F0 H13 ja al ps pool txl pgl bl fl 0 0 ⟨p0, b0, c0, [p0, le0, ld0, lu0], L0, L0, [], [], [], []⟩ ⟨p1, b1, c1, [p1, le1, ld1, lu1], L1, L1, [], [], [], []⟩ := ⟨by decide, W, GA, GB, epg, ebl', efl'⟩
    obtain ⟨cc, oo, S0⟩ : ∃ c o, LS C F0 H13 ja al ps pool txl pgl bl fl 0 0 c o := ⟨_, _, S00⟩
    clear S00 GA GB W epg ebl' efl' gps gtl gpl gt gJ5 hGF hG8 hG10 s10_13 s11_13 s13 ffl fc1 efl ec1 ec0 nc0 hfl hc1 hc0 s12 fbl fb1 ebl eb1 eb0 nb0 hbl hb1 hb0 s11 e11 hpgl d8 fil0' hp10 ht10 fil1 no1 no0 fil0 P0 PF0 PF1 r1 r2 r3 q1 q2 q3 g0 g1 s10 W1 hp1 hdx1 hne1 s9 W0 hp0 hdx0 hne0 hp8 ht8 npt gtxl hn7 hn6 hn4 hn3 hn2 hn1
    have hp : ∃ ns, H13 pool = some (.lst (zvs ns)) ∧ ns.length ≤ 10000 := S0.w.hp
    obtain ⟨nsq, hpq, hnq⟩ := hp
    -- how many rounds
    refine ⟨_, rfl, by show 2 ≤ sizeLine; decide, fun q hq => ?_⟩
    have sq : Same H13 (upd H13 q (.lst (ivs [29, 9]))) := Same.new hq
    have eq1 : (upd H13 q (.lst (ivs [29, 9]))) q = some (.lst (ivs [29, 9])) := upd_same
    have Sq := S0.on sq
    have hpq2 := sq _ _ hpq
    rw [show (HO.lst [V.int 29, V.int 9]) = HO.lst (ivs [29, 9]) from rfl]
    generalize upd H13 q (.lst (ivs [29, 9])) = H14 at sq eq1 Sq hpq2 ⊢
    refine ⟨_, rfl, t, _, _, _, rfl, rfl, SqT.of (Sq.w.same _ _ gt'), rfl, pl, _, rfl, .inl (SqL.of (Sq.w.same _ _ gpl')), _, _, rfl, rfl, .inr ⟨_, rfl, ?_⟩⟩
    generalize (decide ((12 : Int) < _) : Bool) = b
    obtain ⟨n, hn1, hn29, hat⟩ : ∃ n : Nat, 1 ≤ n ∧ n ≤ 29 ∧ atI (ivs [29, 9]) (if b = true then 1 else 0) = some (nV n) := by
      cases b
      · exact ⟨29, by decide, by decide, rfl⟩
      · exact ⟨9, by decide, by decide, rfl⟩
    refine ⟨q, _, _, _, rfl, rfl, SqL.of eq1, hat, pool, nsq, n, rfl, hpq2, by omega, by omega, fun nsr r hnr hr => ?_⟩
    have Sr := Sq.draw (ns := nsr) (by omega)
    generalize upd H14 pool _ = H15 at Sr ⊢
    clear Sq S0 hpq2 hpq eq1 sq hq
    refine ⟨r, rfl, by omega, by omega, for_range (lo := 0) (n := (r : Int).toNat) (fun i σ H' => ∃ (v9 v10 v11 v12 v13 v14 v15 v16 v17 v18 v19 : Option V) (one : Nat) (c o : Side), σ = [some (.ref a0), some (.ref pool), some (.str (tS al)), some (.ref t), some (.ref ja), some (.ref txl), some (.ref pgl), some (.ref bl), some (.ref fl), v9, v10, v11, v12, v13, v14, v15, v16, v17, v18, v19] ∧
      LS C F0 H' ja al ps pool txl pgl bl fl i one c o) ⟨_, _, _, _, _, _, _, _, _, _, _, 0, cc, oo, rfl, Sr⟩ ?_ ?_⟩
    · clear Sr hat
      rintro i σ H16 hi ⟨v9, v10, v11, v12, v13, v14, v15, v16, v17, v18, v19, one0, c0', o0', rfl, S0⟩
      have hi29 : i < 29 := by omega
      obtain ⟨nsA, hpA, hnA⟩ := S0.w.hp
      refine ⟨_, rfl, pool, nsA, 2, rfl, hpA, by decide, by omega, fun nsB r' hnB hr2 => ?_⟩
      obtain ⟨c, o, S1⟩ := (S0.draw (ns := nsB) (by omega)).to hr2
      generalize upd H16 pool _ = H17 at S1 ⊢
      clear S0 hpA
      refine ⟨_, rfl, _, rfl, pgl, _, _, _, rfl, rfl, SqL.of (S1.w.same _ _ S1.epg), at_of (j := r') rfl (pr_get hr2), ?_⟩
      refine ⟨_, rfl, _, rfl, txl, _, _, _, rfl, rfl, SqL.of S1.w.ht, at_of (j := r') rfl (pr_get hr2), ?_⟩
      refine ⟨_, rfl, _, rfl, bl, _, _, _, rfl, rfl, SqL.of (S1.w.same _ _ S1.ebl), at_of (j := r') rfl (pr_get hr2), ?_⟩
      refine ⟨_, rfl, _, rfl, fl, _, _, _, rfl, rfl, SqL.of (S1.w.same _ _ S1.efl), at_of (j := r') rfl (pr_get hr2), ?_⟩
      obtain ⟨nsC, hpC, hnC⟩ := S1.w.hp
      refine ⟨_, rfl, pool, nsC, 6, rfl, hpC, by decide, by omega, fun nsD y hnD hy => ?_⟩
      have S2 := S1.draw (ns := nsD) (by omega)
      refine gName_at ?_
      dsimp only
      generalize upd H17 pool _ = H18 at S2 ⊢
      clear S1 hpC
      show tSeq (tIfS _ _ _) _ _ _ H18
      show tIfS _ _ _ _ _ H18
      refine ifS_gen2 (fun σ' H' => ∃ (v16 v17 v18 : Option V) (c' : Side), σ' = [some (.ref a0), some (.ref pool), some (.str (tS al)), some (.ref t), some (.ref ja), some (.ref txl), some (.ref pgl), some (.ref bl), some (.ref fl), some (.int (0 + (i : Nat))), some (nV r'), some (.ref c.p), some (.str (tx al c.T)), some (.ref c.b), some (.ref c.a), some (nV y), v16, v17, v18, v19] ∧ c'.p = c.p ∧
        LS C F0 H' ja al ps pool txl pgl bl fl (i + 1) r' c' o) (fun D' hD' => ?_) ?_
      · have eTL := S2.gc.eq
        have hLc := S2.gc.len
        have hLs := S2.gc.ls
        have cnt := S2.gc.cnt
        obtain ⟨le, ld, lu, eS, PFc⟩ := S2.w.pgc.ex
        obtain ⟨dx, _, _, hins, _⟩ := PFc.ex
        refine ifS_test (fun b H' => H' = H18 ∧ (b = true → c.B ≠ [])) (fun Q' hQ => ?_) ?_
        · refine ⟨_, rfl, rfl, _, rfl, itB (fun _ => ?_) (fun _ => hQ _ _ ⟨rfl, fun h => by cases h⟩)⟩
          refine ⟨_, rfl, c.b, _, rfl, .inl (SqL.of S2.w.cb), _, _, rfl, rfl, _, rfl, hQ _ _ ⟨rfl, fun h e => ?_⟩⟩
          have h' := of_decide_eq_true h
          rw [rtls_len, e] at h'
          exact absurd h' (by decide)
        rintro b H' ⟨rfl, hb⟩
        cases b with
        | true =>
          have hB := hb rfl
          refine itT rfl ?_
          obtain ⟨M, B', eB⟩ : ∃ M B', c.B = M :: B' := by
            cases e : c.B with
            | nil => exact absurd e hB
            | cons M B' => exact ⟨M, B', rfl⟩
          have bk := S2.gc.back
          rw [eB] at bk
          obtain ⟨e, D1, eD⟩ : ∃ e D', c.D = e :: D' := by
            cases e : c.D with
            | nil => rw [e] at bk; exact bk.elim
            | cons x D' => exact ⟨x, D', rfl⟩
          rw [eD] at bk
          obtain ⟨hEd, hBk⟩ := bk
          obtain ⟨u1, u2⟩ := hEd.undo
          obtain ⟨w1, w2⟩ := hEd.lens
          obtain ⟨hM, hMl⟩ := S2.gc.lsB M (by rw [eB]; simp)
          have pw := S2.w.pw
          rw [eD] at pw
          have cnt' := cnt
          rw [eD, List.length_cons] at cnt'
          refine ⟨_, rfl, c.p, dx, _, rfl, hins, pf_no _ _ _ _ _ (by decide +kernel), ?_⟩
          refine ⟨frm c.S H', c.p, ja, al, ps, c.L, D1, c.U, e, rfl, pw, gJ.same S2.w.frame, u2, by omega, by omega, by omega, by rw [u1]; exact hM, by omega, by omega, fun H20 W20 => ?_⟩
          rw [u1] at W20
          obtain ⟨S', w3⟩ := S2.w.page W20
          have hAl : c.A.length ≤ 100 := by have := S2.gc.forth.len; omega
          refine ⟨_, rfl, .inl ⟨rfl, _, SqL.of w3.ca⟩, _, rfl, c.a, _, _, rfl, rfl, w3.ca, by rw [rtls_len]; exact line_big' (by show c.A.length ≤ _; omega), ?_⟩
          have w4 := w3.setA (c.T :: c.A)
          rw [rtls_cons] at w4
          have cb4 := w4.cb
          refine ⟨_, rfl, .inl ⟨rfl, _, SqL.of cb4⟩, c.b, _, V.str (tx al M), rfl, rfl, cb4, ?_, ?_⟩
          · show (rtls al c.B)[(rtls al c.B).length - 1]? = _
            rw [eB, rtls_cons, List.length_append]
            simp
          have w5 := w4.setB B'
          have ed : (rtls al c.B).dropLast = rtls al B' := by rw [eB, rtls_cons, List.dropLast_concat]
          have w6 := w5.setT M
          refine ⟨_, rfl, _, rfl, txl, pr r' (V.str (tx al c.T)) (V.str (tx al o.T)), _, r', rfl, rfl, (by rw [ed]; exact w5.ht), ix_pr hr2, ?_⟩
          rw [pr_set hr2, ed]
          refine hD' _ _ ⟨_, _, _, ⟨c.p, c.b, c.a, S', M, M, D1, e :: c.U, B', c.T :: c.A⟩, rfl, rfl, ⟨hr2, w6, ⟨rfl, hM, by show M.length ≤ 80; omega, fun X hX => S2.gc.lsB X (by rw [eB]; exact List.mem_cons_of_mem _ hX), fun X hX => ?_, hBk, ?_, by show D1.length + (e :: c.U).length ≤ i + 1; rw [List.length_cons]; omega⟩, S2.go.more (by omega), S2.epg, S2.ebl, S2.efl⟩⟩
          · rcases List.mem_cons.mp hX with h | h
            · rw [h, eTL]; exact ⟨hLs, hLc⟩
            · exact S2.gc.lsA X h
          · show Forth (e :: c.U) (c.T :: c.A) M
            rw [eTL]; exact ⟨hEd, S2.gc.forth⟩
        | false =>
          refine itF rfl ?_
          clear hb
          refine ifS_test (fun b H1 => H1 = H' ∧ (b = true → c.A ≠ [])) (fun Q' hQ => ?_) ?_
          · refine ⟨_, rfl, rfl, _, rfl, itB (fun _ => ?_) (fun _ => hQ _ _ ⟨rfl, fun h => by cases h⟩)⟩
            refine ⟨_, rfl, c.a, _, rfl, .inl (SqL.of S2.w.ca), _, _, rfl, rfl, _, rfl, hQ _ _ ⟨rfl, fun h e => ?_⟩⟩
            have h' := of_decide_eq_true h
            rw [rtls_len, e] at h'
            exact absurd h' (by decide)
          rintro b H' ⟨rfl, hb⟩
          cases b with
          | true =>
            have hB := hb rfl
            refine itT rfl ?_
            obtain ⟨M, B', eB⟩ : ∃ M B', c.A = M :: B' := by
              cases e : c.A with
              | nil => exact absurd e hB
              | cons M B' => exact ⟨M, B', rfl⟩
            have bk := S2.gc.forth
            rw [eB] at bk
            obtain ⟨e, D1, eD⟩ : ∃ e D', c.U = e :: D' := by
              cases e : c.U with
              | nil => rw [e] at bk; exact bk.elim
              | cons x D' => exact ⟨x, D', rfl⟩
            rw [eD] at bk
            obtain ⟨hEd, hBk⟩ := bk
            obtain ⟨u1, u2⟩ := hEd.redo
            obtain ⟨w1, w2⟩ := hEd.lens
            obtain ⟨hM, hMl⟩ := S2.gc.lsA M (by rw [eB]; simp)
            have pw := S2.w.pw
            rw [eD] at pw
            have cnt' := cnt
            rw [eD, List.length_cons] at cnt'
            refine ⟨_, rfl, c.p, dx, _, rfl, hins, pf_no _ _ _ _ _ (by decide +kernel), ?_⟩
            refine ⟨frm c.S H', c.p, ja, al, ps, c.L, c.D, D1, e, rfl, pw, gJ.same S2.w.frame, u2, by omega, by omega, by omega, by rw [u1]; exact hM, by omega, by omega, fun H20 W20 => ?_⟩
            rw [u1] at W20
            obtain ⟨S', w3⟩ := S2.w.page W20
            have hAl : c.B.length ≤ 100 := by have := S2.gc.back.len; omega
            refine ⟨_, rfl, .inl ⟨rfl, _, SqL.of w3.cb⟩, _, rfl, c.b, _, _, rfl, rfl, w3.cb, by rw [rtls_len]; exact line_big' (by show c.B.length ≤ _; omega), ?_⟩
            have w4 := w3.setB (c.T :: c.B)
            rw [rtls_cons] at w4
            have cb4 := w4.ca
            refine ⟨_, rfl, .inl ⟨rfl, _, SqL.of cb4⟩, c.a, _, V.str (tx al M), rfl, rfl, cb4, ?_, ?_⟩
            · show (rtls al c.A)[(rtls al c.A).length - 1]? = _
              rw [eB, rtls_cons, List.length_append]
              simp
            have w5 := w4.setA B'
            have ed : (rtls al c.A).dropLast = rtls al B' := by rw [eB, rtls_cons, List.dropLast_concat]
            have w6 := w5.setT M
            refine ⟨_, rfl, _, rfl, txl, pr r' (V.str (tx al c.T)) (V.str (tx al o.T)), _, r', rfl, rfl, (by rw [ed]; exact w5.ht), ix_pr hr2, ?_⟩
            rw [pr_set hr2, ed]
            refine hD' _ _ ⟨_, _, _, ⟨c.p, c.b, c.a, S', M, M, e :: c.D, D1, c.T :: c.B, B'⟩, rfl, rfl, ⟨hr2, w6, ⟨rfl, hM, by show M.length ≤ 80; omega, fun X hX => ?_, fun X hX => S2.gc.lsA X (by rw [eB]; exact List.mem_cons_of_mem _ hX), ?_, hBk, by show (e :: c.D).length + D1.length ≤ i + 1; rw [List.length_cons]; omega⟩, S2.go.more (by omega), S2.epg, S2.ebl, S2.efl⟩⟩
            · rcases List.mem_cons.mp hX with h | h
              · rw [h, eTL]; exact ⟨hLs, hLc⟩
              · exact S2.gc.lsB X h
            · show Back (e :: c.D) (c.T :: c.B) M
              rw [eTL]; exact ⟨hEd, S2.gc.back⟩
          | false =>
            refine itF rfl ?_
            clear hb
            obtain ⟨nsE, hpE, hnE⟩ := S2.w.hp
            refine ⟨_, rfl, _, rfl, _, rfl, line_big (by rw [tx_len, eTL]; omega), _, _, rfl, rfl, pool, nsE, c.T.length + 1, by rw [tx_len]; rfl, hpE, by omega, by omega, fun nsF x hnF hx => ?_⟩
            have S3 := S2.draw (ns := nsF) (by omega)
            generalize upd H' pool _ = H20 at S3 ⊢
            obtain ⟨nsG, hpG, hnG⟩ := S3.w.hp
            refine ⟨_, rfl, _, rfl, _, rfl, _, rfl, line_big (by rw [hal]; omega), pool, nsG, al.length, by rw [hal]; rfl, hpG, by omega, by omega, fun nsH g hnH hg => ?_⟩
            have S4 := S3.draw (ns := nsH) (by omega)
            generalize upd H20 pool _ = H21 at S4 ⊢
            have gg : (tS al).cps.toList[g]? = some (al.getD g 0) := by
              show al[g]? = _
              rw [List.getD_eq_getElem?_getD, List.getElem?_eq_getElem hg]; rfl
            obtain ⟨nsI, hpI, hnI⟩ := S4.w.hp
            refine ⟨_, _, _, rfl, rfl, line_big (by rw [hal]; omega), at_ofN (j := g) rfl gg, ?_⟩
            refine ⟨_, rfl, _, rfl, _, rfl, t, _, _, _, rfl, rfl, SqT.of (S4.w.same _ _ gt'), rfl, pool, tl, nsI, al, Ts, 11, rfl, hpI, hnI, ntl, S4.w.same _ _ gtl', hT0, hT, hA, by decide, fun H22 M nsJ hM hMl kpJ hpJ hnJ => ?_⟩
            have w5 := S4.w.pool kpJ hpJ hnJ
            refine ⟨_, _, rfl, rfl, by rw [tx_len]; show 1 + _ ≤ _; exact line_big (by omega), ?_⟩
            rw [show (⟨#[al.getD g 0]⟩ : Str) = tx al [g] from rfl, tx_app]
            have hM' : Ls al.length ([g] ++ M) := (ls_one hg).append hM
            have hMl' : ([g] ++ M).length ≤ 12 := by rw [List.length_append]; show 1 + _ ≤ _; omega
            have hM0 : [g] ++ M ≠ [] := by simp
            generalize [g] ++ M = M at hM' hMl' hM0
            -- how many
            refine ⟨_, rfl, pool, nsJ, 12, rfl, hpJ, by decide, by omega, fun nsK z hnK hz => ?_⟩
            have w6 := w5.draw (ns := nsK) (by omega)
            generalize upd H22 pool _ = H23 at w6 ⊢
            refine ⟨_, _, rfl, rfl, _, rfl, _, rfl, line_big (by rw [tx_len, eTL]; omega), _, rfl, _, _, rfl, rfl, _, _, rfl, ?_⟩
            rw [tx_len]
            obtain ⟨n2, en2, hn2⟩ : ∃ n2 : Nat, (if ((c.T.length : Nat) : Int) - ((x : Nat) : Int) < 1 + ((z : Nat) : Int) then ((c.T.length : Nat) : Int) - ((x : Nat) : Int) else 1 + ((z : Nat) : Int)) = (n2 : Int) ∧ x + n2 ≤ c.T.length := by
              refine ⟨if c.T.length - x < 1 + z then c.T.length - x else 1 + z, ?_, ?_⟩
              · split <;> split <;> omega
              · split <;> omega
            show gName 18 (V.int (if ((c.T.length : Nat) : Int) - ((x : Nat) : Int) < 1 + ((z : Nat) : Int) then ((c.T.length : Nat) : Int) - ((x : Nat) : Int) else 1 + ((z : Nat) : Int))) _ _ _
            rw [en2]
            clear en2 hz
            refine gName_at ?_
            dsimp only
            show tSeq (tIfS _ _ _) _ _ _ H23
            show tIfS _ _ _ _ _ H23
            refine ifS_gen2 (fun σ' H' => σ' = [some (.ref a0), some (.ref pool), some (.str (tS al)), some (.ref t), some (.ref ja), some (.ref txl), some (.ref pgl), some (.ref bl), some (.ref fl), some (.int (0 + (i : Nat))), some (nV r'), some (.ref c.p), some (.str (tx al c.T)), some (.ref c.b), some (.ref c.a), some (nV y), some (nV x), some (.str (tx al M)), some (nV n2), v19] ∧
              ∃ (S' : List Addr) (T' L' : List Nat) (D1 U' : List Edit), Wd C F0 H' ja al ps pool txl r' ⟨c.p, c.b, c.a, S', T', L', D1, U', c.B, c.A⟩ o ∧ ((T' = c.T ∧ L' = c.L ∧ D1 = c.D ∧ U' = c.U ∧ S' = S') ∨ (T' = L' ∧ ∃ e, Ed e c.L L' ∧ D1 = e :: c.D ∧ U' = [] ∧ L' ≠ c.L ∧ Ls al.length L' ∧ L'.length ≤ 80))) (fun D2 hD2 => ?_) ?_
            · obtain ⟨le6, ld6, lu6, eS6, PFc6⟩ := w6.pgc.ex
              obtain ⟨dx6, _, _, hins6, _⟩ := PFc6.ex
              refine ifS_test (fun b H1 => H1 = H23 ∧ (b = true → c.T.length < 60)) (fun Q' hQ => ?_) ?_
              · refine ⟨_, rfl, _, _, rfl, rfl, _, rfl, itB (fun _ => ?_) (fun _ => hQ _ _ ⟨rfl, fun h => by cases h⟩)⟩
                refine ⟨_, rfl, _, rfl, line_big (by rw [tx_len, eTL]; omega), _, _, rfl, rfl, _, rfl, hQ _ _ ⟨rfl, fun h => ?_⟩⟩
                have h' := of_decide_eq_true h
                rw [tx_len] at h'
                omega
              rintro b H1 ⟨rfl, hb⟩
              cases b with
              | true =>
                have h60 := hb rfl
                rw [eTL] at h60 hx
                refine itT rfl ?_
                refine ⟨_, rfl, c.p, dx6, _, rfl, hins6, pf_no _ _ _ _ _ (by decide +kernel), _, rfl, _, rfl, ?_⟩
                refine ⟨frm c.S H1, c.p, ja, al, ps, c.L, c.D, c.U, x, M, rfl, w6.pw, gJ.same w6.frame, by omega, by omega, by omega, hLs, hM', by omega, hM0, fun H24 W24 => ?_⟩
                obtain ⟨S', w7⟩ := w6.page W24
                refine ⟨_, rfl, _, rfl, _, rfl, _, rfl, line_big (by rw [tx_len, eTL]; omega), _, rfl, _, _, rfl, rfl, by rw [cutS_to, tx_len, tx_len, List.length_take, eTL]; exact line_big (by omega), ?_⟩
                rw [cutS_to, tx_app]
                refine ⟨_, rfl, _, rfl, _, rfl, _, rfl, line_big (by rw [tx_len, eTL]; omega), _, _, rfl, rfl, by rw [cutS_from, tx_len, tx_len, List.length_append, List.length_take, List.length_drop, eTL]; exact line_big (by omega), ?_⟩
                rw [cutS_from, tx_app]
                have er : c.T.take x ++ M ++ c.T.drop x = repl c.L x 0 M := by rw [eTL]; rfl
                have hRl : (repl c.L x 0 M).length = c.L.length + M.length := by
                  rw [repl_eq, List.length_append, List.length_append, List.length_take, List.length_drop]; omega
                have hRs : Ls al.length (repl c.L x 0 M) := hLs.repl hM' x 0
                have hE : Ed (x, [], M) c.L (repl c.L x 0 M) := by
                  have := Ed.mk (L := c.L) (T := M) (i := x) (m := 0) (by omega)
                  rwa [List.take_zero] at this
                rw [er]
                have hMp := List.length_pos_iff.mpr hM0
                generalize repl c.L x 0 M = R at w7 hRl hRs hE ⊢
                refine ⟨_, rfl, _, rfl, txl, pr r' (V.str (tx al c.T)) (V.str (tx al o.T)), _, r', rfl, rfl, w7.ht, ix_pr hr2, ?_⟩
                rw [pr_set hr2]
                exact hD2 _ _ ⟨rfl, S', R, R, _, _, w7.setT R, .inr ⟨rfl, (x, [], M), hE, rfl, rfl, fun e => by rw [e] at hRl; omega, hRs, by omega⟩⟩
              | false =>
                refine itF rfl ?_
                rw [eTL] at hn2
                refine ⟨_, rfl, _, _, rfl, rfl, _, rfl, itB (fun c0 => ?_) (fun _ => hD2 _ _ ⟨rfl, c.S, c.T, c.L, c.D, c.U, w6, .inl ⟨rfl, rfl, rfl, rfl, rfl⟩⟩)⟩
                have hn0 : 0 < n2 := by have := of_decide_eq_true c0; omega
                refine ⟨_, rfl, c.p, dx6, _, rfl, hins6, pf_no _ _ _ _ _ (by decide +kernel), _, rfl, _, rfl, ?_⟩
                refine ⟨frm c.S H1, c.p, ja, al, ps, c.L, c.D, c.U, x, n2, rfl, w6.pw, gJ.same w6.frame, hn2, by omega, hLs, by omega, hn0, fun H24 W24 => ?_⟩
                obtain ⟨S', w7⟩ := w6.page W24
                refine ⟨_, rfl, _, rfl, _, rfl, _, rfl, line_big (by rw [tx_len, eTL]; omega), ?_⟩
                refine ⟨_, rfl, _, rfl, _, rfl, _, _, rfl, rfl, _, rfl, _, rfl, line_big (by rw [tx_len, eTL]; omega), _, _, rfl, rfl, by rw [← Int.natCast_add, cutS_to, cutS_from, tx_len, tx_len, List.length_take, List.length_drop, eTL]; exact line_big (by omega), ?_⟩
                rw [← Int.natCast_add, cutS_to, cutS_from, tx_app]
                have er : c.T.take x ++ c.T.drop (x + n2) = repl c.L x n2 [] := by rw [eTL, repl_eq, List.append_nil]
                have hRl : (repl c.L x n2 []).length = c.L.length - n2 := by
                  rw [repl_eq, List.length_append, List.length_append, List.length_take, List.length_drop, List.length_nil]; omega
                have hRs : Ls al.length (repl c.L x n2 []) := hLs.repl Ls.nil x n2
                have hE : Ed (x, (c.L.drop x).take n2, []) c.L (repl c.L x n2 []) := Ed.mk hn2
                rw [er]
                generalize repl c.L x n2 [] = R at w7 hRl hRs hE ⊢
                refine ⟨_, rfl, _, rfl, txl, pr r' (V.str (tx al c.T)) (V.str (tx al o.T)), _, r', rfl, rfl, w7.ht, ix_pr hr2, ?_⟩
                rw [pr_set hr2]
                exact hD2 _ _ ⟨rfl, S', R, R, _, _, w7.setT R, .inr ⟨rfl, _, hE, rfl, rfl, fun e => by rw [e] at hRl; omega, hRs, by omega⟩⟩
            · rintro σ' H24 ⟨rfl, S', T', L', D1, U', w7, h7⟩
              refine ⟨_, rfl, _, rfl, txl, _, _, _, rfl, rfl, SqL.of w7.ht, at_of (j := r') rfl (pr_get hr2), _, rfl, rfl, _, rfl, ?_⟩
              rcases h7 with ⟨rfl, rfl, rfl, rfl, _⟩ | ⟨rfl, e, hEd, rfl, rfl, hne, hLs', hLl'⟩
              · refine itF (by rw [decide_eq_true rfl]; rfl) ?_
                refine hD' _ _ ⟨_, _, _, ⟨c.p, c.b, c.a, S', c.T, c.L, c.D, c.U, c.B, c.A⟩, rfl, rfl, ⟨hr2, w7, ?_, S2.go.more (by omega), S2.epg, S2.ebl, S2.efl⟩⟩
                exact ⟨eTL, hLs, hLc, S2.gc.lsB, S2.gc.lsA, S2.gc.back, S2.gc.forth, by show c.D.length + c.U.length ≤ i + 1; omega⟩
              · refine itT ?_ ?_
                · rw [decide_eq_false fun q => hne (tx_inj hA.nodup hLs' hLs (by rw [← eTL]; exact V.str.inj q))]; rfl
                have hBl : c.B.length ≤ 100 := by have := S2.gc.back.len; omega
                refine ⟨_, rfl, .inl ⟨rfl, _, SqL.of w7.cb⟩, _, rfl, c.b, _, _, rfl, rfl, w7.cb, by rw [rtls_len]; exact line_big' (by show c.B.length ≤ _; omega), ?_⟩
                have w8 := w7.setB (c.T :: c.B)
                rw [rtls_cons] at w8
                have ca8 := w8.ca
                refine ⟨_, rfl, .inl ⟨rfl, _, SqL.of ca8⟩, c.a, _, rfl, rfl, ca8, ?_⟩
                have w9 := w8.setA []
                refine hD' _ _ ⟨_, _, _, ⟨c.p, c.b, c.a, S', T', T', e :: c.D, [], c.T :: c.B, []⟩, rfl, rfl, ⟨hr2, w9, ⟨rfl, hLs', hLl', fun X hX => ?_, fun X h => (by cases h), ?_, trivial, by show (e :: c.D).length + 0 ≤ i + 1; rw [List.length_cons]; omega⟩, S2.go.more (by omega), S2.epg, S2.ebl, S2.efl⟩⟩
                · rcases List.mem_cons.mp hX with h | h
                  · rw [h, eTL]; exact ⟨hLs, hLc⟩
                  · exact S2.gc.lsB X h
                · show Back (e :: c.D) (c.T :: c.B) T'
                  rw [eTL]; exact ⟨hEd, S2.gc.back⟩
      · clear S2
        rintro σ' H19 ⟨v16, v17, v18, c', rfl, ep, S3⟩
        rw [← ep]
        clear ep
        obtain ⟨le, ld, lu, eS, PFc⟩ := S3.w.pgc.ex
        obtain ⟨dx, _, _, hins, _⟩ := PFc.ex
        have hLc := S3.gc.len
        refine ⟨_, rfl, _, rfl, t, _, _, _, rfl, rfl, SqT.of (S3.w.same _ _ gt'), rfl, _, rfl, _, rfl, _, rfl, txl, _, _, _, rfl, rfl, SqL.of S3.w.ht, at_of (j := r') rfl (pr_get hr2), ?_⟩
        refine ⟨frm c'.S H19, c'.p, pl, ja, as, al, ps, c'.L, c'.D, c'.U, by rw [S3.gc.eq]; rfl, S3.w.pw, gJ.same S3.w.frame, S3.w.same _ _ gpl', gps'.same S3.w.same, by omega, J.proper.1, hA, S3.gc.ls, by omega, fun H20 s20 => ⟨_, rfl, iteF ?_⟩⟩
        have S4 := S3.on s20
        refine ⟨_, rfl, _, _, rfl, rfl, (by show (0 : Int) < 8; decide), rfl, _, rfl, ?_⟩
        refine itB (fun _ => ?_) (fun _ => ⟨_, _, _, _, _, _, _, _, _, _, _, r', c', o, rfl, S4⟩)
        refine ⟨_, rfl, _, rfl, _, _, rfl, rfl, pgl, _, _, _, rfl, rfl, SqL.of (S4.w.same _ _ S4.epg), at_of (j := 1 - r') (by omega) (pr_get' hr2), ?_⟩
        refine ⟨_, rfl, _, rfl, _, rfl, txl, _, _, _, rfl, rfl, SqL.of S4.w.ht, at_of (j := r') rfl (pr_get hr2), fun px dxx hpx hdxx hnex => ?_⟩
        refine ⟨H20, px, dxx, ja, al, ps, c'.L, by rw [S4.gc.eq]; rfl, (Same.new hdxx).put hpx, hpx, upd_same, gJ.same S4.w.same, S4.gc.ls, by omega, fun H21 W21 => ⟨rfl, ?_⟩⟩
        obtain ⟨lex, ldx, lux, _, _, _, PFx⟩ := W21.at_
        obtain ⟨dxp, _, _, hinsx, _⟩ := PFx.ex
        refine ⟨px, dxp, _, rfl, hinsx, pf_no _ _ _ _ _ (by decide +kernel), ?_⟩
        refine ⟨H20, px, ja, al, ps, c'.L, [], [], rfl, W21, gJ.same S4.w.same, S4.gc.ls, by omega, fun H22 q1 s22 hq1 => ?_⟩
        have S5 := S4.on (W21.same.trans s22)
        refine ⟨_, rfl, c'.p, dx, _, rfl, s22 _ _ (W21.same _ _ (s20 _ _ hins)), pf_no _ _ _ _ _ (by decide +kernel), ?_⟩
        refine ⟨frm c'.S H22, c'.p, ja, al, ps, c'.L, c'.D, c'.U, rfl, S5.w.pw, gJ.same S5.w.frame, S5.gc.ls, by omega, fun H23 q2 s23 hq2 => ?_⟩
        refine .inr ⟨q1, q2, _, rfl, s23 _ _ hq1, hq2, by have := cutP_len (b := al.length) (ps := ps) c'.L; omega, fun H24 s24 => ⟨_, rfl, iteF ?_⟩⟩
        have S6 := S5.on (s23.trans s24)
        have So := S6.swap
        have hLo := So.gc.len
        refine ⟨_, rfl, _, rfl, t, _, _, _, rfl, rfl, SqT.of (S6.w.same _ _ gt'), rfl, _, rfl, _, rfl, _, rfl, _, _, rfl, rfl, txl, _, _, _, rfl, rfl, SqL.of S6.w.ht, at_of (j := 1 - r') (by omega) (pr_get' hr2), ?_⟩
        refine ⟨frm o.S H24, o.p, pl, ja, as, al, ps, o.L, o.D, o.U, by rw [So.gc.eq]; rfl, So.w.pw, gJ.same So.w.frame, So.w.same _ _ gpl', gps'.same So.w.same, by omega, J.proper.1, hA, So.gc.ls, by omega, fun H25 s25 => ⟨_, rfl, iteF ?_⟩⟩
        exact ⟨_, _, _, _, _, _, _, _, _, _, _, r', c', o, rfl, S6.on s25⟩
    · rintro σ H16 ⟨v9, v10, v11, v12, v13, v14, v15, v16, v17, v18, v19, one0, c0', o0', rfl, S0⟩
      exact k _
end
end Rj

set_option Elab.async false
set_option linter.all false
set_option maxRecDepth 100000
namespace Rj
open PySem L2 PyProof.Rows
theorem Nw.mk' {P : Program} {w : World} {K : PySem.W.Frag} {mg : Str → Option Value} {base : Heap} {h : Heap} {x qual : Str} {C : Addr} {st : Stmt} {ps : List Str} {k : Nat} {sp : Sp} (X : K.In h) (G : h.Ns mainGlobals mg) (c : ClsAt K x C) (D : MethAt K C "__init__" qual st) (b : BindsOf st "__init__" qual ps)
    (ok : ∀ {f : Addr} {fd : FuncData}, Fun K "__init__" qual st f fd → FnOk P w K mg base CX0 k f fd ps sp) : Nw P w K mg base x C ps k sp := by
  obtain ⟨f, oc, od, kV, doc, pm, an, cdv, ct, osl, a, i, l, cc, kp⟩ := D
  have F := fun_mk (st := st) l cc kp
  obtain ⟨c1, c2, c3, c4, c5, c6, c7⟩ := c
  exact ⟨f, _, ⟨c6, a, i, c7⟩, PySem.W.mg_of X G c1, F.binds b, ok F⟩
theorem ClsAt.cl {K : PySem.W.Frag} {x : Str} {C : Addr} (c : ClsAt K x C) : Cls K C := ⟨c.2.1, c.2.2.1, c.2.2.2.1, c.2.2.2.2.1⟩
set_option maxHeartbeats 0 in
theorem all_mk {P : Program} {w : World} {K : PySem.W.Frag} {h : Heap} {mg : Str → Option Value} {fa CJ CP : Addr} {tL tM : Tok} (X : K.In h) (G : h.Ns mainGlobals mg) (hfa : mg "law" = some (.ref fa))
    (dis_between : DefAt K "is_between" sBetween)
    (dis_alphabet : DefAt K "is_alphabet" sIsAl)
    (dchecked_alphabet : DefAt K "checked_alphabet" sChkAl)
    (dput_together : DefAt K "put_together" sPut)
    (dlowest_pair : DefAt K "lowest_pair" sLow)
    (dcut_row : DefAt K "cut_row" sCut)
    (dright_spine : DefAt K "right_spine" sRSp)
    (dleft_spine : DefAt K "left_spine" sLSp)
    (dcrossing : DefAt K "crossing" sCross)
    (dside_by_side : DefAt K "side_by_side" sSide)
    (dletters_of : DefAt K "letters_of" sLetters)
    (dnext_tail : DefAt K "next_tail" sNextTail)
    (dchain : DefAt K "chain" sChain)
    (d_law_pool : DefAt K "_law_pool" sPool)
    (d_law_draw : DefAt K "_law_draw" sDraw)
    (d_law_alphabet : DefAt K "_law_alphabet" sLAl)
    (d_law_staged : DefAt K "_law_staged" sStaged)
    (d_law_cut : DefAt K "_law_cut" sLCut)
    (d_law_pairs : DefAt K "_law_pairs" sLPairs)
    (d_law_text : DefAt K "_law_text" sLText)
    (d_law_same : DefAt K "_law_same" sSame)
    (d_law_shown : DefAt K "_law_shown" sShown)
    (dlaw : DefAt K "law" sLaw)
    (cJ : ClsAt K "Joins" CJ)
    (cP : ClsAt K "Page" CP)
    (mJis_piece : MethAt K CJ "is_piece" "Joins.is_piece" sIsPiece)
    (mJcheck_piece : MethAt K CJ "check_piece" "Joins.check_piece" sChk)
    (mJtext_of : MethAt K CJ "text_of" "Joins.text_of" sTextOf)
    (mJparts_of : MethAt K CJ "parts_of" "Joins.parts_of" sPartsOf)
    (mJpiece_of : MethAt K CJ "piece_of" "Joins.piece_of" sPieceOf)
    (mJis_proper : MethAt K CJ "is_proper" "Joins.is_proper" sProper)
    (mJtake : MethAt K CJ "take" "Joins.take" sTake)
    (mJ__init__ : MethAt K CJ "__init__" "Joins.__init__" sJInit)
    (mPreplace : MethAt K CP "replace" "Page.replace" sReplace)
    (mPedit : MethAt K CP "edit" "Page.edit" sEdit)
    (mPcontent : MethAt K CP "content" "Page.content" sContent)
    (mPcut_row : MethAt K CP "cut_row" "Page.cut_row" sCutRow)
    (mPput_in : MethAt K CP "put_in" "Page.put_in" sPutIn)
    (mPtake_out : MethAt K CP "take_out" "Page.take_out" sTakeOut)
    (mPundo : MethAt K CP "undo" "Page.undo" sUndo)
    (mPredo : MethAt K CP "redo" "Page.redo" sRedo)
    (mP__len__ : MethAt K CP "__len__" "Page.__len__" sPLen)
    (mP__init__ : MethAt K CP "__init__" "Page.__init__" sPInit)
    (nJalphabet : PySem.W.findIn K (.ref CJ) "alphabet" = some none)
    (nJpairs : PySem.W.findIn K (.ref CJ) "pairs" = some none)
    (nJtexts : PySem.W.findIn K (.ref CJ) "texts" = some none)
    (nJranks : PySem.W.findIn K (.ref CJ) "ranks" = some none)
    (nJnumbers : PySem.W.findIn K (.ref CJ) "numbers" = some none)
    (nJlongest : PySem.W.findIn K (.ref CJ) "longest" = some none)
    (nPjoins : PySem.W.findIn K (.ref CP) "joins" = some none)
    (nPletters : PySem.W.findIn K (.ref CP) "letters" = some none)
    (nPends : PySem.W.findIn K (.ref CP) "ends" = some none)
    (nPdone : PySem.W.findIn K (.ref CP) "done" = some none)
    (nPundone : PySem.W.findIn K (.ref CP) "undone" = some none)
    (gisinstance : PySem.W.nsIn K mainGlobals "isinstance" = some none)
    (gint : PySem.W.nsIn K mainGlobals "int" = some none)
    (gbool : PySem.W.nsIn K mainGlobals "bool" = some none)
    (gstr : PySem.W.nsIn K mainGlobals "str" = some none)
    (gtuple : PySem.W.nsIn K mainGlobals "tuple" = some none)
    (glist : PySem.W.nsIn K mainGlobals "list" = some none)
    (glen : PySem.W.nsIn K mainGlobals "len" = some none)
    (grange : PySem.W.nsIn K mainGlobals "range" = some none)
    (genumerate : PySem.W.nsIn K mainGlobals "enumerate" = some none)
    (greversed : PySem.W.nsIn K mainGlobals "reversed" = some none)
    (gsorted : PySem.W.nsIn K mainGlobals "sorted" = some none)
    (gmax : PySem.W.nsIn K mainGlobals "max" = some none)
    (gmin : PySem.W.nsIn K mainGlobals "min" = some none)
    (gabs : PySem.W.nsIn K mainGlobals "abs" = some none)
    (gML : PySem.W.nsIn K mainGlobals "MOST_LETTERS" = some (some (.int 30 tL)))
    (gLP : PySem.W.nsIn K mainGlobals "LONGEST_PIECE" = some (some (.int 40 tM))) :
    ∃ fd : FuncData, (∀ (s : Shared) (v : Value), BindsTo s fd ⟨[v], []⟩ [("_law_script", v)]) ∧ ∀ base : Heap, K.In base → base.Ns mainGlobals mg → FnOk P w K mg base CX0 12 fa fd ["_law_script"] (spLaw K) := by
  obtain ⟨fl, oc, od, kV, doc, pm, an, cdv, ct, osl, al, ll, cl, kl⟩ := dlaw
  have e := hfa.symm.trans (PySem.W.mg_of X G al)
  cases e
  have T : Gb K mg := ⟨PySem.W.mg_none_of X G gisinstance, PySem.W.mg_none_of X G gint, PySem.W.mg_none_of X G gbool, PySem.W.mg_none_of X G gstr, PySem.W.mg_none_of X G gtuple, PySem.W.mg_none_of X G glist, PySem.W.mg_none_of X G glen, PySem.W.mg_none_of X G grange, PySem.W.mg_none_of X G genumerate, PySem.W.mg_none_of X G greversed, PySem.W.mg_none_of X G gsorted, PySem.W.mg_none_of X G gmax, PySem.W.mg_none_of X G gmin, PySem.W.mg_none_of X G gabs, ⟨_, PySem.W.mg_of X G gML⟩, ⟨_, PySem.W.mg_of X G gLP⟩⟩
  have TJ0 : TJ K CJ := ⟨cJ.cl, nJalphabet, nJpairs, nJtexts, nJranks, nJnumbers, nJlongest⟩
  have TP0 : TP K CP := ⟨cP.cl, nPjoins, nPletters, nPends, nPdone, nPundone⟩
  refine ⟨PySem.W.fnOf "law" "law" (defArgs sLaw) (defBody sLaw) (defScope sLaw) .none kV doc pm an cdv ct, fun s v => .of_eq rfl, fun base _ _ => ?_⟩
  have Dis_between := Df.mk' (P := P) (w := w) (base := base) X G dis_between (fun _ _ _ _ _ _ us hl => match us, hl with | [_, _, _], _ => rfl) fun F => ok_between F T
  have Dis_alphabet := Df.mk' (P := P) (w := w) (base := base) X G dis_alphabet (fun _ _ _ _ _ _ us hl => match us, hl with | [_], _ => rfl) fun F => ok_isAl F T
  have Dchecked_alphabet := Df.mk' (P := P) (w := w) (base := base) X G dchecked_alphabet (fun _ _ _ _ _ _ us hl => match us, hl with | [_], _ => rfl) fun F => ok_chkAl F Dis_alphabet
  have Dput_together := Df.mk' (P := P) (w := w) (base := base) X G dput_together (fun _ _ _ _ _ _ us hl => match us, hl with | [_, _, _], _ => rfl) fun F => ok_put F T
  have Dlowest_pair := Df.mk' (P := P) (w := w) (base := base) X G dlowest_pair (fun _ _ _ _ _ _ us hl => match us, hl with | [_, _], _ => rfl) fun F => ok_low F T
  have Dcut_row := Df.mk' (P := P) (w := w) (base := base) X G dcut_row (fun _ _ _ _ _ _ us hl => match us, hl with | [_, _, _], _ => rfl) fun F => ok_cut F T Dlowest_pair Dput_together
  have Jis_piece := Mt.mk' (P := P) (w := w) (mg := mg) (base := base) mJis_piece (fun _ _ _ _ _ _ us hl => match us, hl with | [_, _], _ => rfl) fun F => ok_isPiece F T TJ0 Dis_between
  have Jcheck_piece := Mt.mk' (P := P) (w := w) (mg := mg) (base := base) mJcheck_piece (fun _ _ _ _ _ _ us hl => match us, hl with | [_, _], _ => rfl) fun F => ok_chk F TJ0 Jis_piece
  have Jtext_of := Mt.mk' (P := P) (w := w) (mg := mg) (base := base) mJtext_of (fun _ _ _ _ _ _ us hl => match us, hl with | [_, _], _ => rfl) fun F => ok_textOf F TJ0 Jcheck_piece
  have Jparts_of := Mt.mk' (P := P) (w := w) (mg := mg) (base := base) mJparts_of (fun _ _ _ _ _ _ us hl => match us, hl with | [_, _], _ => rfl) fun F => ok_partsOf F T TJ0 Jcheck_piece
  have Jpiece_of := Mt.mk' (P := P) (w := w) (mg := mg) (base := base) mJpiece_of (fun _ _ _ _ _ _ us hl => match us, hl with | [_, _], _ => rfl) fun F => ok_pieceOf F TJ0
  have Jis_proper := Mt.mk' (P := P) (w := w) (mg := mg) (base := base) mJis_proper (fun _ _ _ _ _ _ us hl => match us, hl with | [_, _], _ => rfl) fun F => ok_proper F T TJ0 Dis_between Dcut_row
  have Jtake := Mt.mk' (P := P) (w := w) (mg := mg) (base := base) mJtake (fun _ _ _ _ _ _ us hl => match us, hl with | [_, _], _ => rfl) fun F => ok_take F T TJ0 Jis_proper
  have NJ := Nw.mk' (P := P) (w := w) (base := base) X G cJ mJ__init__ (fun _ _ _ _ _ _ us hl => match us, hl with | [_, _, _], _ => rfl) fun F => ok_jinit F T TJ0 Dchecked_alphabet Jtake
  have Dright_spine := Df.mk' (P := P) (w := w) (base := base) X G dright_spine (fun _ _ _ _ _ _ us hl => match us, hl with | [_, _], _ => rfl) fun F => ok_RSp F T TJ0 Jparts_of
  have Dleft_spine := Df.mk' (P := P) (w := w) (base := base) X G dleft_spine (fun _ _ _ _ _ _ us hl => match us, hl with | [_, _], _ => rfl) fun F => ok_LSp F T TJ0 Jparts_of
  have Dcrossing := Df.mk' (P := P) (w := w) (base := base) X G dcrossing (fun _ _ _ _ _ _ us hl => match us, hl with | [_, _, _], _ => rfl) fun F => ok_cross F T TJ0 Dright_spine Dleft_spine
  have Dside_by_side := Df.mk' (P := P) (w := w) (base := base) X G dside_by_side (fun _ _ _ _ _ _ us hl => match us, hl with | [_, _, _], _ => rfl) fun F => ok_side F Dcrossing
  have Dletters_of := Df.mk' (P := P) (w := w) (base := base) X G dletters_of (fun _ _ _ _ _ _ us hl => match us, hl with | [_, _], _ => rfl) fun F => ok_letters F T TJ0 Jpiece_of
  have Dnext_tail := Df.mk' (P := P) (w := w) (base := base) X G dnext_tail (fun _ _ _ _ _ _ us hl => match us, hl with | [_, _, _], _ => rfl) fun F => ok_nextTail F T TJ0 Jpiece_of Dside_by_side
  have Dchain := Df.mk' (P := P) (w := w) (base := base) X G dchain (fun _ _ _ _ _ _ us hl => match us, hl with | [_, _], _ => rfl) fun F => ok_chain F T TJ0 Jtext_of
  have Preplace := Mt.mk' (P := P) (w := w) (mg := mg) (base := base) mPreplace (fun _ _ _ _ _ _ us hl => match us, hl with | [_, _, _, _], _ => rfl) fun F => ok_replace F T TP0 Dnext_tail
  have Pedit := Mt.mk' (P := P) (w := w) (mg := mg) (base := base) mPedit (fun _ _ _ _ _ _ us hl => match us, hl with | [_, _, _, _], _ => rfl) fun F => ok_edit F T TP0 Preplace
  have Pcontent := Mt.mk' (P := P) (w := w) (mg := mg) (base := base) mPcontent (fun _ _ _ _ _ _ us hl => match us, hl with | [_], _ => rfl) fun F => ok_content F TP0
  have Pcut_row := Mt.mk' (P := P) (w := w) (mg := mg) (base := base) mPcut_row (fun _ _ _ _ _ _ us hl => match us, hl with | [_], _ => rfl) fun F => ok_cutRow F T TP0 Dchain
  have Pput_in := Mt.mk' (P := P) (w := w) (mg := mg) (base := base) mPput_in (fun _ _ _ _ _ _ us hl => match us, hl with | [_, _, _], _ => rfl) fun F => ok_putIn F T TP0 Dis_between Dletters_of Pedit
  have Ptake_out := Mt.mk' (P := P) (w := w) (mg := mg) (base := base) mPtake_out (fun _ _ _ _ _ _ us hl => match us, hl with | [_, _, _], _ => rfl) fun F => ok_takeOut F T TP0 Dis_between Pedit
  have Pundo := Mt.mk' (P := P) (w := w) (mg := mg) (base := base) mPundo (fun _ _ _ _ _ _ us hl => match us, hl with | [_], _ => rfl) fun F => ok_Undo F T TP0 Preplace
  have Predo := Mt.mk' (P := P) (w := w) (mg := mg) (base := base) mPredo (fun _ _ _ _ _ _ us hl => match us, hl with | [_], _ => rfl) fun F => ok_Redo F T TP0 Preplace
  have P__len__ := Mt.mk' (P := P) (w := w) (mg := mg) (base := base) mP__len__ (fun _ _ _ _ _ _ us hl => match us, hl with | [_], _ => rfl) fun F => ok_plen F T TP0
  have NP := Nw.mk' (P := P) (w := w) (base := base) X G cP mP__init__ (fun _ _ _ _ _ _ us hl => match us, hl with | [_, _, _], _ => rfl) fun F => ok_pinit F T TP0 Dletters_of Preplace
  have D_law_pool := Df.mk' (P := P) (w := w) (base := base) X G d_law_pool (fun _ _ _ _ _ _ us hl => match us, hl with | [_, _], _ => rfl) fun F => ok_pool F T
  have D_law_draw := Df.mk' (P := P) (w := w) (base := base) X G d_law_draw (fun _ _ _ _ _ _ us hl => match us, hl with | [_, _], _ => rfl) fun F => ok_draw F T
  have D_law_alphabet := Df.mk' (P := P) (w := w) (base := base) X G d_law_alphabet (fun _ _ _ _ _ _ us hl => match us, hl with | [_], _ => rfl) fun F => ok_lal F T D_law_draw
  have D_law_staged := Df.mk' (P := P) (w := w) (base := base) X G d_law_staged (fun _ _ _ _ _ _ us hl => match us, hl with | [_, _, _, _], _ => rfl) fun F => ok_staged F T
  have D_law_cut := Df.mk' (P := P) (w := w) (base := base) X G d_law_cut (fun _ _ _ _ _ _ us hl => match us, hl with | [_, _, _], _ => rfl) fun F => ok_lcut F T D_law_staged
  have D_law_pairs := Df.mk' (P := P) (w := w) (base := base) X G d_law_pairs (fun _ _ _ _ _ _ us hl => match us, hl with | [_, _, _], _ => rfl) fun F => ok_lpairs F T D_law_draw D_law_cut
  have D_law_text := Df.mk' (P := P) (w := w) (base := base) X G d_law_text (fun _ _ _ _ _ _ us hl => match us, hl with | [_, _, _, _], _ => rfl) fun F => ok_ltext F T D_law_draw
  have D_same1 := Df.mk' (P := P) (w := w) (base := base) X G d_law_same (fun _ _ _ _ _ _ us hl => match us, hl with | [_, _], _ => rfl) fun F => ok_same1 F T
  have D_law_same := Df.mk' (P := P) (w := w) (base := base) X G d_law_same (fun _ _ _ _ _ _ us hl => match us, hl with | [_, _], _ => rfl) fun F => Rj.FnOk.either ((ok_same1 F T).mono (show 1 ≤ 2 by decide)) (ok_same2 F T D_same1)
  have D_law_shown := Df.mk' (P := P) (w := w) (base := base) X G d_law_shown (fun _ _ _ _ _ _ us hl => match us, hl with | [_, _, _, _], _ => rfl) fun F => ok_shown F T TP0 D_law_same D_law_cut Pcontent Pcut_row P__len__
  exact ok_law (fun_mk (st := sLaw) ll cl kl) T TP0 NJ NP D_law_pool D_law_draw D_law_alphabet D_law_pairs D_law_text D_law_same D_law_shown Pcut_row Pput_in Ptake_out Pundo Predo
theorem walk {l : PySem.W.OpenLaw} {q : Program} {loose : List Str} {XP : (Str → Option Value) → Heap → Prop} {YP : World → Heap → Prop} {d : DefRec} {K : Params → PySem.W.Frag} (hn : l.most = some 63) (hdf : d.params.defaults = [])
    (hY : ∀ (w : World) (h : Heap), YP w h → (K w.params).In h)
    (F : ∀ (w : World) (mg : Str → Option Value) (fa : Addr) (h : Heap), (K w.params).In h → h.Ns mainGlobals mg → mg d.name = some (.ref fa) →
      ∃ fd : FuncData, (∀ (s : Shared) (u : Value), BindsTo s fd ⟨[u], []⟩ [("_law_script", u)]) ∧ ∀ base : Heap, (K w.params).In base → base.Ns mainGlobals mg → FnOk l.prog w (K w.params) mg base CX0 12 fa fd ["_law_script"] (spLaw (K w.params))) :
    PySem.W.WalkO q loose XP YP l.row.toRowW d [] (fun f vs => PySem.call f vs) :=
  L2.walk_of (n := 63) (k := 12) (x := "_law_script") (CX := fun _ => CX0) (sp := fun w => spLaw (K w.params)) hn (by decide) hdf ⟨rfl, by decide, by decide⟩ hY F (fun _ _ a ns hl _ hS => ⟨a, ns, rfl, hS, hl, fun _ => rfl⟩) fun _ _ _ _ _ z => z
end Rj

set_option Elab.async false
set_option maxRecDepth 100000
open PySem PySem.W PyProof.Rows
set_option maxHeartbeats 0
open_top rjhead for PySem.Challenge.rw_rankedjoins_k31_whole_behind_any_edits

set_option Elab.async false
set_option linter.all false
open PySem PySem.W PyProof.Rows in
set_option maxRecDepth 100000 in
set_option maxHeartbeats 0 in
theorem PySem.Challenge.cw_rankedjoins_k31_whole_behind_any_edits_holds : PySem.Challenge.rw_rankedjoins_k31_whole_behind_any_edits.Holds := by
  refine rjhead ?_
  k_fill
  refine Rj.walk (l := PySem.Challenge.rw_rankedjoins_k31_whole_behind_any_edits) rfl rfl (fun w h Y => PySem.W.kIn_of Y) ?F
  case F =>
    intro w mg fa h KX G hmg
    refine' Rj.all_mk KX G hmg ?dis_between ?dis_alphabet ?dchecked_alphabet ?dput_together ?dlowest_pair ?dcut_row ?dright_spine ?dleft_spine ?dcrossing ?dside_by_side ?dletters_of ?dnext_tail ?dchain ?d_law_pool ?d_law_draw ?d_law_alphabet ?d_law_staged ?d_law_cut ?d_law_pairs ?d_law_text ?d_law_same ?d_law_shown ?dlaw ?cJ ?cP ?mJis_piece ?mJcheck_piece ?mJtext_of ?mJparts_of ?mJpiece_of ?mJis_proper ?mJtake ?mJ__init__ ?mPreplace ?mPedit ?mPcontent ?mPcut_row ?mPput_in ?mPtake_out ?mPundo ?mPredo ?mP__len__ ?mP__init__ ?nJalphabet ?nJpairs ?nJtexts ?nJranks ?nJnumbers ?nJlongest ?nPjoins ?nPletters ?nPends ?nPdone ?nPundone ?gisinstance ?gint ?gbool ?gstr ?gtuple ?glist ?glen ?grange ?genumerate ?greversed ?gsorted ?gmax ?gmin ?gabs ?gML ?gLP
    (case cJ =>
      refine' ⟨?k1, ?k2, ?k3, ?k4, ?k5, ?k6, ?k7⟩
      (case k1 => k_is)
      (case k2 => k_is)
      (case k3 => k_is)
      (case k4 => k_is)
      (case k5 => k_is)
      (case k6 => k_is)
      (case k7 => k_is))
    (case cP =>
      refine' ⟨?k1, ?k2, ?k3, ?k4, ?k5, ?k6, ?k7⟩
      (case k1 => k_is)
      (case k2 => k_is)
      (case k3 => k_is)
      (case k4 => k_is)
      (case k5 => k_is)
      (case k6 => k_is)
      (case k7 => k_is))
    (case dis_between =>
      refine' Rj.DefAt.mk ?k1 ?k2 ?k3 ?k4
      (case k1 => k_is)
      (case k2 => k_is)
      (case k3 => k_is)
      (case k4 => k_is))
    (case dis_alphabet =>
      refine' Rj.DefAt.mk ?k1 ?k2 ?k3 ?k4
      (case k1 => k_is)
      (case k2 => k_is)
      (case k3 => k_is)
      (case k4 => k_is))
    (case dchecked_alphabet =>
      refine' Rj.DefAt.mk ?k1 ?k2 ?k3 ?k4
      (case k1 => k_is)
      (case k2 => k_is)
      (case k3 => k_is)
      (case k4 => k_is))
    (case dput_together =>
      refine' Rj.DefAt.mk ?k1 ?k2 ?k3 ?k4
      (case k1 => k_is)
      (case k2 => k_is)
      (case k3 => k_is)
      (case k4 => k_is))
    (case dlowest_pair =>
      refine' Rj.DefAt.mk ?k1 ?k2 ?k3 ?k4
      (case k1 => k_is)
      (case k2 => k_is)
      (case k3 => k_is)
      (case k4 => k_is))
    (case dcut_row =>
      refine' Rj.DefAt.mk ?k1 ?k2 ?k3 ?k4
      (case k1 => k_is)
      (case k2 => k_is)
      (case k3 => k_is)
      (case k4 => k_is))
    (case dright_spine =>
      refine' Rj.DefAt.mk ?k1 ?k2 ?k3 ?k4
      (case k1 => k_is)
      (case k2 => k_is)
      (case k3 => k_is)
      (case k4 => k_is))
    (case dleft_spine =>
      refine' Rj.DefAt.mk ?k1 ?k2 ?k3 ?k4
      (case k1 => k_is)
      (case k2 => k_is)
      (case k3 => k_is)
      (case k4 => k_is))
    (case dcrossing =>
      refine' Rj.DefAt.mk ?k1 ?k2 ?k3 ?k4
      (case k1 => k_is)
      (case k2 => k_is)
      (case k3 => k_is)
      (case k4 => k_is))
    (case dside_by_side =>
      refine' Rj.DefAt.mk ?k1 ?k2 ?k3 ?k4
      (case k1 => k_is)
      (case k2 => k_is)
      (case k3 => k_is)
      (case k4 => k_is))
    (case dletters_of =>
      refine' Rj.DefAt.mk ?k1 ?k2 ?k3 ?k4
      (case k1 => k_is)
      (case k2 => k_is)
      (case k3 => k_is)
      (case k4 => k_is))
    (case dnext_tail =>
      refine' Rj.DefAt.mk ?k1 ?k2 ?k3 ?k4
      (case k1 => k_is)
      (case k2 => k_is)
      (case k3 => k_is)
      (case k4 => k_is))
    (case dchain =>
      refine' Rj.DefAt.mk ?k1 ?k2 ?k3 ?k4
      (case k1 => k_is)
      (case k2 => k_is)
      (case k3 => k_is)
      (case k4 => k_is))
    (case d_law_pool =>
      refine' Rj.DefAt.mk ?k1 ?k2 ?k3 ?k4
      (case k1 => k_is)
      (case k2 => k_is)
      (case k3 => k_is)
      (case k4 => k_is))
    (case d_law_draw =>
      refine' Rj.DefAt.mk ?k1 ?k2 ?k3 ?k4
      (case k1 => k_is)
      (case k2 => k_is)
      (case k3 => k_is)
      (case k4 => k_is))
    (case d_law_alphabet =>
      refine' Rj.DefAt.mk ?k1 ?k2 ?k3 ?k4
      (case k1 => k_is)
      (case k2 => k_is)
      (case k3 => k_is)
      (case k4 => k_is))
    (case d_law_staged =>
      refine' Rj.DefAt.mk ?k1 ?k2 ?k3 ?k4
      (case k1 => k_is)
      (case k2 => k_is)
      (case k3 => k_is)
      (case k4 => k_is))
    (case d_law_cut =>
      refine' Rj.DefAt.mk ?k1 ?k2 ?k3 ?k4
      (case k1 => k_is)
      (case k2 => k_is)
      (case k3 => k_is)
      (case k4 => k_is))
    (case d_law_pairs =>
      refine' Rj.DefAt.mk ?k1 ?k2 ?k3 ?k4
      (case k1 => k_is)
      (case k2 => k_is)
      (case k3 => k_is)
      (case k4 => k_is))
    (case d_law_text =>
      refine' Rj.DefAt.mk ?k1 ?k2 ?k3 ?k4
      (case k1 => k_is)
      (case k2 => k_is)
      (case k3 => k_is)
      (case k4 => k_is))
    (case d_law_same =>
      refine' Rj.DefAt.mk ?k1 ?k2 ?k3 ?k4
      (case k1 => k_is)
      (case k2 => k_is)
      (case k3 => k_is)
      (case k4 => k_is))
    (case d_law_shown =>
      refine' Rj.DefAt.mk ?k1 ?k2 ?k3 ?k4
      (case k1 => k_is)
      (case k2 => k_is)
      (case k3 => k_is)
      (case k4 => k_is))
    (case dlaw =>
      refine' Rj.DefAt.mk ?k1 ?k2 ?k3 ?k4
      (case k1 => k_is)
      (case k2 => k_is)
      (case k3 => k_is)
      (case k4 => k_is))
    (case mJis_piece =>
      refine' Rj.MethAt.mk ?k1 ?k2 ?k3 ?k4 ?k5
      (case k1 => k_is)
      (case k2 => k_is)
      (case k3 => k_is)
      (case k4 => k_is)
      (case k5 => k_is))
    (case mJcheck_piece =>
      refine' Rj.MethAt.mk ?k1 ?k2 ?k3 ?k4 ?k5
      (case k1 => k_is)
      (case k2 => k_is)
      (case k3 => k_is)
      (case k4 => k_is)
      (case k5 => k_is))
    (case mJtext_of =>
      refine' Rj.MethAt.mk ?k1 ?k2 ?k3 ?k4 ?k5
      (case k1 => k_is)
      (case k2 => k_is)
      (case k3 => k_is)
      (case k4 => k_is)
      (case k5 => k_is))
    (case mJparts_of =>
      refine' Rj.MethAt.mk ?k1 ?k2 ?k3 ?k4 ?k5
      (case k1 => k_is)
      (case k2 => k_is)
      (case k3 => k_is)
      (case k4 => k_is)
      (case k5 => k_is))
    (case mJpiece_of =>
      refine' Rj.MethAt.mk ?k1 ?k2 ?k3 ?k4 ?k5
      (case k1 => k_is)
      (case k2 => k_is)
      (case k3 => k_is)
      (case k4 => k_is)
      (case k5 => k_is))
    (case mJis_proper =>
      refine' Rj.MethAt.mk ?k1 ?k2 ?k3 ?k4 ?k5
      (case k1 => k_is)
      (case k2 => k_is)
      (case k3 => k_is)
      (case k4 => k_is)
      (case k5 => k_is))
    (case mJtake =>
      refine' Rj.MethAt.mk ?k1 ?k2 ?k3 ?k4 ?k5
      (case k1 => k_is)
      (case k2 => k_is)
      (case k3 => k_is)
      (case k4 => k_is)
      (case k5 => k_is))
    (case mJ__init__ =>
      refine' Rj.MethAt.mk ?k1 ?k2 ?k3 ?k4 ?k5
      (case k1 => k_is)
      (case k2 => k_is)
      (case k3 => k_is)
      (case k4 => k_is)
      (case k5 => k_is))
    (case mPreplace =>
      refine' Rj.MethAt.mk ?k1 ?k2 ?k3 ?k4 ?k5
      (case k1 => k_is)
      (case k2 => k_is)
      (case k3 => k_is)
      (case k4 => k_is)
      (case k5 => k_is))
    (case mPedit =>
      refine' Rj.MethAt.mk ?k1 ?k2 ?k3 ?k4 ?k5
      (case k1 => k_is)
      (case k2 => k_is)
      (case k3 => k_is)
      (case k4 => k_is)
      (case k5 => k_is))
    (case mPcontent =>
      refine' Rj.MethAt.mk ?k1 ?k2 ?k3 ?k4 ?k5
      (case k1 => k_is)
      (case k2 => k_is)
      (case k3 => k_is)
      (case k4 => k_is)
      (case k5 => k_is))
    (case mPcut_row =>
      refine' Rj.MethAt.mk ?k1 ?k2 ?k3 ?k4 ?k5
      (case k1 => k_is)
      (case k2 => k_is)
      (case k3 => k_is)
      (case k4 => k_is)
      (case k5 => k_is))
    (case mPput_in =>
      refine' Rj.MethAt.mk ?k1 ?k2 ?k3 ?k4 ?k5
      (case k1 => k_is)
      (case k2 => k_is)
      (case k3 => k_is)
      (case k4 => k_is)
      (case k5 => k_is))
    (case mPtake_out =>
      refine' Rj.MethAt.mk ?k1 ?k2 ?k3 ?k4 ?k5
      (case k1 => k_is)
      (case k2 => k_is)
      (case k3 => k_is)
      (case k4 => k_is)
      (case k5 => k_is))
    (case mPundo =>
      refine' Rj.MethAt.mk ?k1 ?k2 ?k3 ?k4 ?k5
      (case k1 => k_is)
      (case k2 => k_is)
      (case k3 => k_is)
      (case k4 => k_is)
      (case k5 => k_is))
    (case mPredo =>
      refine' Rj.MethAt.mk ?k1 ?k2 ?k3 ?k4 ?k5
      (case k1 => k_is)
      (case k2 => k_is)
      (case k3 => k_is)
      (case k4 => k_is)
      (case k5 => k_is))
    (case mP__len__ =>
      refine' Rj.MethAt.mk ?k1 ?k2 ?k3 ?k4 ?k5
      (case k1 => k_is)
      (case k2 => k_is)
      (case k3 => k_is)
      (case k4 => k_is)
      (case k5 => k_is))
    (case mP__init__ =>
      refine' Rj.MethAt.mk ?k1 ?k2 ?k3 ?k4 ?k5
      (case k1 => k_is)
      (case k2 => k_is)
      (case k3 => k_is)
      (case k4 => k_is)
      (case k5 => k_is))
    (case nJalphabet => k_is)
    (case nJpairs => k_is)
    (case nJtexts => k_is)
    (case nJranks => k_is)
    (case nJnumbers => k_is)
    (case nJlongest => k_is)
    (case nPjoins => k_is)
    (case nPletters => k_is)
    (case nPends => k_is)
    (case nPdone => k_is)
    (case nPundone => k_is)
    (case gisinstance => k_is)
    (case gint => k_is)
    (case gbool => k_is)
    (case gstr => k_is)
    (case gtuple => k_is)
    (case glist => k_is)
    (case glen => k_is)
    (case grange => k_is)
    (case genumerate => k_is)
    (case greversed => k_is)
    (case gsorted => k_is)
    (case gmax => k_is)
    (case gmin => k_is)
    (case gabs => k_is)
    (case gML => k_is)
    (case gLP => k_is)
#print axioms PySem.Challenge.cw_rankedjoins_k31_whole_behind_any_edits_holds

