import PyProof.Rows.All
import Wide.All
import OpenK.AllK
import Wide.FinOn
import HandS.ForMost
import HandS.Wide
import HandS.WideBits
import HandS.Gcd
import HandS.IsInst
import HandS.TupAny
import HandS.Walk
import HandS.Zip
import HandS.Rev
import HandS.RevRange
import HandS.Flow
import HandS.NoneIn
import HandS.Style
import HandS.Deep
import HandS.Conv
import KE.KDictPairs
import KE.KDictKeyed
import KE.KDictZip
import KE.KItemsList
import KE.SortKeyHeap
import KE.KNestM
import HandS.EndTab
import HandS.Lambda
import KE.KSortKey
import KE.KLam
import HandS.Nested
import PySem.Challenge.RW_everychange_k29_across_unlike_rows_part
set_option Elab.async false
set_option linter.all false
namespace Lk
/-! ## words (last letter first) and their worths -/
abbrev Fn := List Int → Rat
abbrev Row := List (Int × Rat)
/-- the terms with one letter p or more taken off -/
def go (p : Int) (x : Rat) (F : Fn) : Nat → Rat → List Int → Rat
  | _, _, [] => 0
  | k, m, q :: w => if q = p then F w * (m * (x / (k : Rat))) + go p x F (k + 1) (m * (x / (k : Rat))) w else 0
/-- one pair more behind -/
def E (p : Int) (x : Rat) (F : Fn) : Fn := fun w => F w + go p x F 1 1 w
def eps : Fn := fun w => if w = [] then 1 else 0
def on (r : Row) (F : Fn) : Fn := r.foldl (fun G a => E a.1 a.2 G) F
def wo (r : Row) : Fn := on r eps
def worth (r : Row) (w : List Int) : Rat := wo r w.reverse

def dl (a p : Int) : Rat := if a = p then 1 else 0
theorem E0 (p : Int) (x : Rat) (F : Fn) : E p x F [] = F [] := by simp [E, go]; grind
theorem E1 (p : Int) (x : Rat) (F : Fn) (a : Int) : E p x F [a] = F [a] + dl a p * (x * F []) := by
  simp only [E, go, dl]; split <;> grind
theorem E2 (p : Int) (x : Rat) (F : Fn) (a b : Int) : E p x F [a, b] = F [a, b] + dl a p * (x * F [b] + dl b p * (x * x / 2 * F [])) := by
  simp only [E, go, dl]; repeat' split
  all_goals grind
theorem E3 (p : Int) (x : Rat) (F : Fn) (a b c : Int) : E p x F [a, b, c] = F [a, b, c] + dl a p * (x * F [b, c] + dl b p * (x * x / 2 * F [c] + dl c p * (x * x * x / 6 * F []))) := by
  simp only [E, go, dl]; repeat' split
  all_goals grind
theorem E4 (p : Int) (x : Rat) (F : Fn) (a b c d : Int) : E p x F [a, b, c, d] = F [a, b, c, d] + dl a p * (x * F [b, c, d] + dl b p * (x * x / 2 * F [c, d] + dl c p * (x * x * x / 6 * F [d] + dl d p * (x * x * x * x / 24 * F [])))) := by
  simp only [E, go, dl]; repeat' split
  all_goals grind
/-- words up to four letters, one by one -/
theorem len4 {P : List Int → Prop} (h0 : P []) (h1 : ∀ a, P [a]) (h2 : ∀ a b, P [a, b]) (h3 : ∀ a b c, P [a, b, c]) (h4 : ∀ a b c d, P [a, b, c, d]) :
    ∀ w : List Int, w.length ≤ 4 → P w
  | [], _ => h0
  | [a], _ => h1 a
  | [a, b], _ => h2 a b
  | [a, b, c], _ => h3 a b c
  | [a, b, c, d], _ => h4 a b c d
  | _ :: _ :: _ :: _ :: _ :: _, h => by simp at h
/-- alike at words of at most n letters below wide -/
def Ok (wide : Int) (n : Nat) (w : List Int) : Prop := w.length ≤ n ∧ ∀ c ∈ w, 0 ≤ c ∧ c < wide
def Eq4 (F G : Fn) : Prop := ∀ w : List Int, w.length ≤ 4 → F w = G w
def Eqn (wide : Int) (n : Nat) (F G : Fn) : Prop := ∀ w : List Int, Ok wide n w → F w = G w
theorem Ok.tail {wide : Int} {n : Nat} {q : Int} {w : List Int} (h : Ok wide n (q :: w)) : Ok wide n w :=
  ⟨by have := h.1; simp at this; omega, fun c hc => h.2 c (List.mem_cons_of_mem _ hc)⟩
theorem go_congr {wide : Int} {n : Nat} {p : Int} {x : Rat} {F G : Fn} (h : Eqn wide n F G) : ∀ (w : List Int) (k : Nat) (m : Rat), Ok wide n w → go p x F k m w = go p x G k m w
  | [], _, _, _ => rfl
  | q :: w, k, m, o => by
    simp only [go]
    rw [h w o.tail, go_congr h w _ _ o.tail]
theorem E_congr {wide : Int} {n : Nat} {p : Int} {x : Rat} {F G : Fn} (h : Eqn wide n F G) : Eqn wide n (E p x F) (E p x G) := fun w o => by
  unfold E
  rw [h w o, go_congr h w _ _ o]
theorem on_congr {wide : Int} {n : Nat} : ∀ (r : Row) {F G : Fn}, Eqn wide n F G → Eqn wide n (on r F) (on r G)
  | [], _, _, h => h
  | a :: r, _, _, h => on_congr r (E_congr h)
theorem Eqn.refl {wide : Int} {n : Nat} {F : Fn} : Eqn wide n F F := fun _ _ => rfl
theorem Eqn.symm {wide : Int} {n : Nat} {F G : Fn} (h : Eqn wide n F G) : Eqn wide n G F := fun w o => (h w o).symm
theorem Eqn.trans {wide : Int} {n : Nat} {F G K : Fn} (h : Eqn wide n F G) (h2 : Eqn wide n G K) : Eqn wide n F K := fun w o => (h w o).trans (h2 w o)
theorem Eq4.eqn {wide : Int} {n : Nat} {F G : Fn} (h : Eq4 F G) (hn : n ≤ 4) : Eqn wide n F G := fun w o => h w (Nat.le_trans o.1 hn)
theorem Eq4.trans {F G K : Fn} (h : Eq4 F G) (h2 : Eq4 G K) : Eq4 F K := fun w o => (h w o).trans (h2 w o)
theorem Eq4.symm {F G : Fn} (h : Eq4 F G) : Eq4 G F := fun w o => (h w o).symm
theorem go_congr4 {p : Int} {x : Rat} {F G : Fn} (h : Eq4 F G) : ∀ (w : List Int) (k : Nat) (m : Rat), w.length ≤ 4 → go p x F k m w = go p x G k m w
  | [], _, _, _ => rfl
  | q :: w, k, m, o => by
    have o2 : w.length ≤ 4 := by simp at o; omega
    simp only [go]
    rw [h w o2, go_congr4 h w _ _ o2]
theorem E_congr4 {p : Int} {x : Rat} {F G : Fn} (h : Eq4 F G) : Eq4 (E p x F) (E p x G) := fun w o => by
  unfold E
  rw [h w o, go_congr4 h w _ _ o]
theorem on_congr4 : ∀ (r : Row) {F G : Fn}, Eq4 F G → Eq4 (on r F) (on r G)
  | [], _, _, h => h
  | a :: r, _, _, h => on_congr4 r (E_congr4 h)
theorem on_append (a b : Row) (F : Fn) : on (a ++ b) F = on b (on a F) := by unfold on; rw [List.foldl_append]
theorem wo_append (a b : Row) : wo (a ++ b) = on b (wo a) := on_append a b eps
theorem on_cons (a : Int × Rat) (r : Row) (F : Fn) : on (a :: r) F = on r (E a.1 a.2 F) := rfl
theorem on_nil (F : Fn) : on [] F = F := rfl
theorem on_snoc (r : Row) (a : Int × Rat) (F : Fn) : on (r ++ [a]) F = E a.1 a.2 (on r F) := by rw [on_append]; rfl
/-! ### two flows of one part are one, a flow for 0 is none -/
theorem E_merge (p : Int) (x y : Rat) (F : Fn) : Eq4 (E p y (E p x F)) (E p (x + y) F) := by
  refine len4 ?_ ?_ ?_ ?_ ?_
  · simp only [E0]
  · intro a; simp only [E0, E1]; grind
  · intro a b; simp only [E0, E1, E2]; grind
  · intro a b c; simp only [E0, E1, E2, E3]; grind
  · intro a b c d; simp only [E0, E1, E2, E3, E4]; grind
theorem E_zero (p : Int) (F : Fn) : Eq4 (E p 0 F) F := by
  refine len4 ?_ ?_ ?_ ?_ ?_
  · simp only [E0]
  · intro a; simp only [E1]; grind
  · intro a b; simp only [E2]; grind
  · intro a b c; simp only [E3]; grind
  · intro a b c d; simp only [E4]; grind
/-! ### one row behind another -/
/-- the front of the word by e, the rest by F -/
def cv (e F : Fn) : Fn
  | [] => e [] * F []
  | q :: w => e [] * F (q :: w) + cv (fun s => e (q :: s)) F w
theorem cv_eps (F : Fn) : ∀ w, cv eps F w = F w
  | [] => by simp [cv, eps]
  | q :: w => by
    have z : ∀ (w : List Int) (e : Fn), (∀ s, e s = 0) → cv e F w = 0 := by
      intro w
      induction w with
      | nil => intro e h; simp [cv, h]
      | cons q w ih => intro e h; rw [cv, ih _ fun s => h _, h]; grind
    simp only [cv]
    rw [z w _ fun s => by simp [eps]]
    simp [eps]; grind
theorem cv_E (p : Int) (x : Rat) (e F : Fn) : Eq4 (cv (E p x e) F) (E p x (cv e F)) := by
  refine len4 ?_ ?_ ?_ ?_ ?_
  · simp only [E0, cv]
  · intro a; simp only [E0, E1, cv]; grind
  · intro a b; simp only [E0, E1, E2, cv]; grind
  · intro a b c; simp only [E0, E1, E2, E3, cv]; grind
  · intro a b c d; simp only [E0, E1, E2, E3, E4, cv]; grind
theorem on_cv : ∀ (r : Row) (e F : Fn), Eq4 (cv (on r e) F) (on r (cv e F))
  | [], _, _ => fun _ _ => rfl
  | a :: r, e, F => (on_cv r (E a.1 a.2 e) F).trans (on_congr4 r (cv_E a.1 a.2 e F))
theorem on_eq_cv (r : Row) (F : Fn) : Eq4 (on r F) (cv (wo r) F) := by
  have h : cv eps F = F := funext (cv_eps F)
  have q := (on_cv r eps F).symm
  rw [h] at q
  exact q
theorem cv_congr {wide : Int} : ∀ (w : List Int) (n : Nat) {e e' F : Fn}, Eqn wide n e e' → Ok wide n w → cv e F w = cv e' F w
  | [], n, e, e', F, h, o => by simp only [cv]; rw [h [] o]
  | q :: w, n, e, e', F, h, o => by
    have o0 : Ok wide n [] := ⟨Nat.zero_le _, fun c hc => nomatch hc⟩
    simp only [cv]
    obtain ⟨m, rfl⟩ : ∃ m, n = m + 1 := ⟨n - 1, by have := o.1; simp at this; omega⟩
    rw [h [] o0, cv_congr w m (e := fun s => e (q :: s)) (e' := fun s => e' (q :: s)) (fun s os => h (q :: s) ⟨by have := os.1; simp; omega, fun c hc => by
      rcases List.mem_cons.mp hc with rfl | hc
      · exact o.2 _ (List.mem_cons_self ..)
      · exact os.2 c hc⟩) ⟨by have := o.1; simp at this; omega, fun c hc => o.2 c (List.mem_cons_of_mem _ hc)⟩]
/-- a row ahead changes nothing -/
theorem ahead {wide : Int} {n : Nat} (hn : n ≤ 4) {a b : Row} (c : Row) (h : Eqn wide n (wo a) (wo b)) : Eqn wide n (wo (c ++ a)) (wo (c ++ b)) := by
  rw [wo_append, wo_append]
  refine ((on_eq_cv a (wo c)).eqn hn).trans (Eqn.trans ?_ ((on_eq_cv b (wo c)).eqn hn).symm)
  exact fun w o => cv_congr w n h o
theorem behind {wide : Int} {n : Nat} {a b : Row} (c : Row) (h : Eqn wide n (wo a) (wo b)) : Eqn wide n (wo (a ++ c)) (wo (b ++ c)) := by
  rw [wo_append, wo_append]
  exact on_congr c h
end Lk

namespace Lk
/-! ## normal rows: a pile, its last pair first -/
def pu : Row → Int × Rat → Row
  | [], (p, x) => if x = 0 then [] else [(p, x)]
  | (q, y) :: t, (p, x) => if q = p then (if y + x = 0 then t else (p, y + x) :: t) else (if x = 0 then (q, y) :: t else (p, x) :: (q, y) :: t)
def nfr (r : Row) : Row := r.foldl pu []
def nf (r : Row) : Row := (nfr r).reverse
def inv (r : Row) : Row := (r.map fun a => (a.1, -a.2)).reverse
def Nm : Row → Prop
  | [] => True
  | [a] => a.2 ≠ 0
  | a :: b :: t => a.2 ≠ 0 ∧ a.1 ≠ b.1 ∧ Nm (b :: t)
theorem Nm.tail {a : Int × Rat} {t : Row} (h : Nm (a :: t)) : Nm t := by
  cases t with
  | nil => trivial
  | cons b t => exact h.2.2
theorem Nm.head {a : Int × Rat} {t : Row} (h : Nm (a :: t)) : a.2 ≠ 0 := by
  cases t with
  | nil => exact h
  | cons b t => exact h.1
theorem Nm.cons {a : Int × Rat} {t : Row} (h0 : a.2 ≠ 0) (h : Nm t) (hd : ∀ b ∈ t.head?, a.1 ≠ b.1) : Nm (a :: t) := by
  cases t with
  | nil => exact h0
  | cons b t => exact ⟨h0, hd b rfl, h⟩
theorem Nm.ne {a b : Int × Rat} {t : Row} (h : Nm (a :: b :: t)) : a.1 ≠ b.1 := h.2.1
theorem pu_nm {t : Row} (h : Nm t) (a : Int × Rat) : Nm (pu t a) := by
  obtain ⟨p, x⟩ := a
  cases t with
  | nil =>
    simp only [pu]
    split
    · trivial
    · assumption
  | cons b t =>
    obtain ⟨q, y⟩ := b
    simp only [pu]
    split
    · rename_i e
      split
      · exact h.tail
      · rename_i e2
        refine Nm.cons e2 h.tail fun b hb => ?_
        cases t with
        | nil => cases hb
        | cons c t => cases hb; have := h.ne; simp only at this; rw [← e]; exact this
    · split
      · exact h
      · rename_i e e2
        exact Nm.cons e2 h fun b hb => by cases hb; exact fun z => e z.symm
theorem fold_nm : ∀ (r : Row) {t : Row}, Nm t → Nm (r.foldl pu t)
  | [], _, h => h
  | a :: r, _, h => fold_nm r (pu_nm h a)
theorem nfr_nm (r : Row) : Nm (nfr r) := fold_nm r trivial
theorem pu_nil (p : Int) (x : Rat) : pu [] (p, x) = if x = 0 then [] else [(p, x)] := rfl
theorem pu_hit (p : Int) (y x : Rat) (t : Row) : pu ((p, y) :: t) (p, x) = if y + x = 0 then t else (p, y + x) :: t := by simp only [pu, if_pos]
theorem pu_miss {q p : Int} (e : ¬ q = p) (y x : Rat) (t : Row) : pu ((q, y) :: t) (p, x) = if x = 0 then (q, y) :: t else (p, x) :: (q, y) :: t := by simp only [pu, if_neg e]
theorem pu_pu {t : Row} (h : Nm t) (p : Int) (x y : Rat) : pu (pu t (p, x)) (p, y) = pu t (p, x + y) := by
  cases t with
  | nil =>
    rw [pu_nil, pu_nil]
    by_cases e : x = 0
    · subst e
      have e2 : (0 : Rat) + y = y := by grind
      rw [if_pos rfl, e2, pu_nil]
    · rw [if_neg e, pu_hit]
  | cons b t =>
    obtain ⟨q, z⟩ := b
    have h0 := h.head
    simp only at h0
    by_cases e : q = p
    · subst e
      rw [pu_hit, pu_hit]
      by_cases e2 : z + x = 0
      · have e3 : z + (x + y) = y := by grind
        rw [if_pos e2, e3]
        cases t with
        | nil => rw [pu_nil]
        | cons c t =>
          obtain ⟨c, v⟩ := c
          have hne := h.ne
          simp only at hne
          rw [pu_miss (fun z => hne z.symm)]
      · have e3 : z + x + y = z + (x + y) := by grind
        rw [if_neg e2, pu_hit, e3]
    · rw [pu_miss e, pu_miss e]
      by_cases e2 : x = 0
      · subst e2
        have e3 : (0 : Rat) + y = y := by grind
        rw [if_pos rfl, pu_miss e, e3]
      · rw [if_neg e2, pu_hit]
theorem pu_zero {t : Row} (h : Nm t) (p : Int) : pu t (p, 0) = t := by
  cases t with
  | nil => simp only [pu, if_pos]
  | cons b t =>
    obtain ⟨q, z⟩ := b
    have h0 := h.head
    simp only at h0
    simp only [pu]
    have e : z + 0 = z := by grind
    rw [e, if_neg h0, if_pos True.intro]
    split
    · rename_i e; rw [e]
    · rfl
theorem pu_back {t : Row} (h : Nm t) (a : Int × Rat) : pu (pu t a) (a.1, -a.2) = t := by
  rw [show a = (a.1, a.2) from rfl, pu_pu h, show a.2 + -a.2 = 0 by grind, pu_zero h]
theorem pu_back' {t : Row} (h : Nm t) (a : Int × Rat) : pu (pu t (a.1, -a.2)) a = t := by
  have := pu_back h (a.1, -a.2)
  simp only at this
  rw [show - -a.2 = a.2 by grind] at this
  exact this
theorem inv_cons (a : Int × Rat) (r : Row) : inv (a :: r) = inv r ++ [(a.1, -a.2)] := by simp [inv]
theorem fold_inv : ∀ (r : Row) {t : Row}, Nm t → (inv r).foldl pu (r.foldl pu t) = t
  | [], _, _ => rfl
  | a :: r, t, h => by
    rw [inv_cons, List.foldl_append, show (a :: r).foldl pu t = r.foldl pu (pu t a) from rfl, fold_inv r (pu_nm h a)]
    exact pu_back h a
theorem inv_inv (r : Row) : inv (inv r) = r := by
  unfold inv
  rw [List.map_reverse, List.reverse_reverse, List.map_map]
  have : ((fun a : Int × Rat => (a.1, -a.2)) ∘ fun a => (a.1, -a.2)) = id := by
    funext a
    show (a.1, - -a.2) = a
    rw [show - -a.2 = a.2 by grind]
  rw [this, List.map_id]
theorem fold_inv' (r : Row) {t : Row} (h : Nm t) : r.foldl pu ((inv r).foldl pu t) = t := by
  have := fold_inv (inv r) h
  rw [inv_inv] at this
  exact this
theorem nfr_append (a b : Row) : nfr (a ++ b) = b.foldl pu (nfr a) := List.foldl_append ..
/-- the same normal row exactly if one with the other undone behind it is none -/
theorem same_iff (a b : Row) : nfr (a ++ inv b) = [] ↔ nfr a = nfr b := by
  rw [nfr_append]
  constructor
  · intro h
    have e := fold_inv' b (nfr_nm a)
    rw [h] at e
    exact e.symm
  · intro h
    rw [h]
    exact fold_inv b trivial
theorem nfr_of_nm : ∀ {t : Row}, Nm t → nfr t.reverse = t
  | [], _ => rfl
  | a :: t, h => by
    rw [List.reverse_cons, nfr_append, nfr_of_nm h.tail]
    obtain ⟨p, x⟩ := a
    have h0 := h.head
    simp only at h0
    simp only [List.foldl_cons, List.foldl_nil]
    cases t with
    | nil => simp only [pu]; rw [if_neg h0]
    | cons b t =>
      obtain ⟨q, y⟩ := b
      have hne := h.ne
      simp only at hne
      simp only [pu]
      rw [if_neg (fun z => hne z.symm), if_neg h0]
/-! ### worths are those of the normal row -/
theorem wo_pu (t : Row) (a : Int × Rat) : Eq4 (wo (pu t a).reverse) (E a.1 a.2 (wo t.reverse)) := by
  obtain ⟨p, x⟩ := a
  cases t with
  | nil =>
    simp only [pu]
    split
    · rename_i e; subst e
      exact (E_zero p _).symm
    · exact fun _ _ => rfl
  | cons b t =>
    obtain ⟨q, y⟩ := b
    simp only [pu]
    split
    · rename_i e
      subst e
      have m := E_merge q y x (wo t.reverse)
      have e2 : wo ((q, y) :: t).reverse = E q y (wo t.reverse) := by rw [List.reverse_cons]; exact on_snoc ..
      split
      · rename_i e3
        rw [e2]
        rw [e3] at m
        exact (E_zero q _).symm.trans m.symm
      · rw [e2]
        refine Eq4.trans ?_ m.symm
        rw [List.reverse_cons]
        rw [show wo (t.reverse ++ [(q, y + x)]) = E q (y + x) (wo t.reverse) from on_snoc ..]
        exact fun _ _ => rfl
    · split
      · rename_i e; subst e
        exact (E_zero p _).symm
      · rw [List.reverse_cons]
        rw [show wo (((q, y) :: t).reverse ++ [(p, x)]) = E p x (wo ((q, y) :: t).reverse) from on_snoc ..]
        exact fun _ _ => rfl
theorem wo_fold : ∀ (r t : Row), Eq4 (wo (r.foldl pu t).reverse) (on r (wo t.reverse))
  | [], _ => fun _ _ => rfl
  | a :: r, t => (wo_fold r (pu t a)).trans (on_congr4 r (wo_pu t a))
theorem wo_nf (r : Row) : Eq4 (wo (nf r)) (wo r) := wo_fold r []
theorem wo_of_nfr {a b : Row} (h : nfr a = nfr b) : Eq4 (wo a) (wo b) := by
  have e : nf a = nf b := by unfold nf; rw [h]
  have := wo_nf a
  rw [e] at this
  exact this.symm.trans (wo_nf b)
theorem wo_inv (b : Row) : Eq4 (wo (b ++ inv b)) (wo []) := wo_of_nfr (by rw [(same_iff b b).mpr rfl]; rfl)
/-! ## the ring -/
def hd (r : Row) : Int := (r.head?.getD (0, 0)).1
def lt (r : Row) : Int := (r.getLast?.getD (0, 0)).1
/-- one lap -/
def turnR (r : Row) : Row := if 1 < r.length ∧ hd r = lt r then nf (r.tail ++ r.take 1) else r
def laps : Nat → Row → Row
  | 0, r => r
  | n + 1, r => laps n (turnR r)
def ring (r : Row) : Row := laps (nf r).length (nf r)
/-- both ends unlike, or at most one pair -/
def Still (r : Row) : Prop := r.length ≤ 1 ∨ hd r ≠ lt r
theorem turnR_still {r : Row} (h : Still r) : turnR r = r := by
  unfold turnR
  rw [if_neg]
  rintro ⟨h1, h2⟩
  rcases h with h | h
  · omega
  · exact h h2
theorem Nm.append_single : ∀ {t : Row} {a : Int × Rat}, Nm (t ++ [a]) → Nm t
  | [], _, _ => trivial
  | [b], _, h => h.1
  | b :: c :: t, a, h => by
    have h' : Nm (b :: c :: (t ++ [a])) := h
    exact ⟨h'.1, h'.2.1, Nm.append_single (t := c :: t) h'.2.2⟩
/-- the ring of a normal row that is not none, its ends of one part: it stays normal and some, and shorter by one pair or two -/
theorem turn_some {t : Row} (h : Nm t) (h1 : 1 < t.length) (he : hd t.reverse = lt t.reverse) : Nm (turnR t.reverse).reverse ∧ turnR t.reverse ≠ [] ∧ (turnR t.reverse).length < t.length := by
  unfold turnR
  rw [if_pos ⟨by rw [List.length_reverse]; exact h1, he⟩]
  refine ⟨by unfold nf; rw [List.reverse_reverse]; exact nfr_nm _, ?_⟩
  -- t = a :: u ++ [b]
  obtain ⟨a, u, rfl⟩ : ∃ a u, t = a :: u := by cases t with | nil => simp at h1 | cons a u => exact ⟨a, u, rfl⟩
  obtain ⟨v, b, rfl⟩ : ∃ v b, u = v ++ [b] := by
    have hu : u ≠ [] := by intro z; subst z; simp at h1
    exact ⟨u.dropLast, u.getLast hu, (List.dropLast_concat_getLast hu).symm⟩
  have er : (a :: (v ++ [b])).reverse = b :: (v.reverse ++ [a]) := by simp
  rw [er] at he ⊢
  have hb : b.1 = a.1 := by
    have h2 : lt (b :: (v.reverse ++ [a])) = a.1 := by rw [show b :: (v.reverse ++ [a]) = (b :: v.reverse) ++ [a] from rfl]; simp only [lt, List.getLast?_concat]; rfl
    rw [h2] at he
    exact he
  have e2 : (b :: (v.reverse ++ [a])).tail ++ (b :: (v.reverse ++ [a])).take 1 = (a :: v).reverse ++ [b] := by simp
  rw [e2]
  have hv : v ≠ [] := by
    intro z; subst z
    exact h.ne hb.symm
  unfold nf
  rw [nfr_append, nfr_of_nm (Nm.append_single (t := a :: v) h)]
  obtain ⟨p, x⟩ := a
  obtain ⟨q, y⟩ := b
  simp only at hb
  subst hb
  simp only [List.foldl_cons, List.foldl_nil, pu, if_pos]
  split
  · refine ⟨by simpa using hv, ?_⟩
    simp
    omega
  · refine ⟨by simp, ?_⟩
    simp
theorem turn_len {t : Row} (h : Nm t) : Nm (turnR t.reverse).reverse ∧ (turnR t.reverse = [] ↔ t = []) ∧ (turnR t.reverse).length ≤ t.length ∧ (Still (turnR t.reverse) ∨ (turnR t.reverse).length < t.length) := by
  by_cases c : 1 < t.length ∧ hd t.reverse = lt t.reverse
  · obtain ⟨h1, h2, h3⟩ := turn_some h c.1 c.2
    refine ⟨h1, ⟨fun z => absurd z h2, fun z => ?_⟩, by omega, .inr h3⟩
    subst z
    simp at c
  · have s : Still t.reverse := by
      by_cases h1 : 1 < t.length
      · exact .inr fun z => c ⟨h1, z⟩
      · exact .inl (by rw [List.length_reverse]; omega)
    rw [turnR_still s]
    exact ⟨by rw [List.reverse_reverse]; exact h, by simp, by simp, .inl s⟩
theorem laps_still : ∀ (n : Nat) {r : Row}, Still r → laps n r = r
  | 0, _, _ => rfl
  | n + 1, r, h => by
    show laps n (turnR r) = r
    rw [turnR_still h, laps_still n h]
theorem laps_end : ∀ (n : Nat) {t : Row}, Nm t → t.length ≤ n → Nm (laps n t.reverse).reverse ∧ (laps n t.reverse = [] ↔ t = []) ∧ Still (laps n t.reverse)
  | 0, t, h, hl => by
    have e : t = [] := List.length_eq_zero_iff.mp (by omega)
    subst e
    exact ⟨trivial, by simp [laps], .inl (by simp [laps])⟩
  | n + 1, t, h, hl => by
    obtain ⟨h1, h2, h3, h4⟩ := turn_len h
    show Nm (laps n (turnR t.reverse)).reverse ∧ (laps n (turnR t.reverse) = [] ↔ t = []) ∧ Still (laps n (turnR t.reverse))
    rcases h4 with h4 | h4
    · rw [laps_still n h4]
      exact ⟨h1, h2, h4⟩
    · obtain ⟨k1, k2, k3⟩ := laps_end n h1 (by rw [List.length_reverse]; omega)
      rw [List.reverse_reverse] at k1 k2 k3
      refine ⟨k1, ?_, k3⟩
      rw [k2, List.reverse_eq_nil_iff]
      exact h2
theorem ring_end (r : Row) : Nm (ring r).reverse ∧ (ring r = [] ↔ nfr r = []) ∧ Still (ring r) := by
  have h := laps_end (nfr r).length (nfr_nm r) (Nat.le_refl _)
  unfold ring nf
  rw [List.length_reverse]
  exact h
/-- two rows are the same exactly if the ring is none -/
theorem ring_iff (a b : Row) : ring (a ++ inv b) = [] ↔ nf a = nf b := by
  rw [(ring_end _).2.1, same_iff]
  unfold nf
  constructor
  · intro h; rw [h]
  · intro h; simpa using congrArg List.reverse h
/-! ### the ring moves nothing if the row moves nothing -/
theorem rot_eps {wide : Int} {n : Nat} (hn : n ≤ 4) (a : Int × Rat) (m : Row) (h : Eqn wide n (wo (a :: m)) eps) : Eqn wide n (wo (m ++ [a])) eps := by
  have k1 : Eqn wide n (wo ([(a.1, -a.2)] ++ (a :: m) ++ [a])) (wo ([(a.1, -a.2)] ++ [] ++ [a])) := behind [a] (ahead hn _ h)
  have c : Eq4 (wo ([(a.1, -a.2)] ++ [a])) (wo []) := by
    have := wo_inv [(a.1, -a.2)]
    simp only [inv, List.map_cons, List.map_nil, List.reverse_cons, List.reverse_nil, List.nil_append] at this
    rw [show - -a.2 = a.2 by grind] at this
    exact this
  have e1 : [(a.1, -a.2)] ++ (a :: m) ++ [a] = ([(a.1, -a.2)] ++ [a]) ++ (m ++ [a]) := by simp
  have k2 : Eqn wide n (wo (([(a.1, -a.2)] ++ [a]) ++ (m ++ [a]))) (wo ([] ++ (m ++ [a]))) := behind _ (c.eqn hn)
  rw [e1] at k1
  have k3 : Eqn wide n (wo ([(a.1, -a.2)] ++ [] ++ [a])) eps := c.eqn hn
  exact (Eqn.symm k2).trans (k1.trans k3)
theorem turn_eps {wide : Int} {n : Nat} (hn : n ≤ 4) {r : Row} (h : Eqn wide n (wo r) eps) : Eqn wide n (wo (turnR r)) eps := by
  unfold turnR
  split
  · cases r with
    | nil => exact h
    | cons a m =>
      refine ((wo_nf _).eqn hn).trans ?_
      exact rot_eps hn a m h
  · exact h
theorem laps_eps {wide : Int} {n : Nat} (hn : n ≤ 4) : ∀ (k : Nat) {r : Row}, Eqn wide n (wo r) eps → Eqn wide n (wo (laps k r)) eps
  | 0, _, h => h
  | k + 1, _, h => laps_eps hn k (turn_eps hn h)
theorem ring_eps {wide : Int} {n : Nat} (hn : n ≤ 4) {a b : Row} (h : Eqn wide n (wo a) (wo b)) : Eqn wide n (wo (ring (a ++ inv b))) eps := by
  refine laps_eps hn _ (((wo_nf _).eqn hn).trans ?_)
  exact (behind (inv b) h).trans ((wo_inv b).eqn hn)
end Lk

namespace Lk
/-! ## a sum over words that parts rows: nilpotent steps, the top power alone -/
/-- the sum of f over 0, .., n - 1 -/
def sm : Nat → (Nat → Rat) → Rat
  | 0, _ => 0
  | n + 1, f => sm n f + f n
theorem sm_congr : ∀ (n : Nat) {f g : Nat → Rat}, (∀ i, i < n → f i = g i) → sm n f = sm n g
  | 0, _, _, _ => rfl
  | n + 1, f, g, h => by simp only [sm]; rw [sm_congr n fun i hi => h i (by omega), h n (by omega)]
theorem sm_add : ∀ (n : Nat) (f g : Nat → Rat), sm n (fun i => f i + g i) = sm n f + sm n g
  | 0, _, _ => by simp only [sm]; grind
  | n + 1, f, g => by simp only [sm]; rw [sm_add n f g]; grind
theorem sm_zero (n : Nat) : sm n (fun _ => 0) = 0 := by
  induction n with
  | zero => rfl
  | succ n ih => simp only [sm]; rw [ih]; grind
/-- one place alone -/
theorem sm_one : ∀ (n k : Nat) (v : Rat), k < n → sm n (fun i => if i = k then v else 0) = v
  | 0, _, _, h => absurd h (by omega)
  | n + 1, k, v, h => by
    simp only [sm]
    by_cases e : n = k
    · subst e
      have : sm n (fun i => if i = n then v else 0) = sm n (fun _ => 0) := sm_congr n fun i hi => if_neg (by omega)
      rw [this, sm_zero, if_pos rfl]; grind
    · rw [sm_one n k v (by omega), if_neg e]; grind
def S (wide : Nat) : Nat → Fn → Rat → Rat → Rat
  | 0, F, a, b => F [] * (b - a)
  | n + 1, F, a, b => sm wide fun q => ((q : Nat) - a : Rat) * S wide n (fun w => F ((q : Int) :: w)) (q : Nat) b
theorem S_congr {wide : Nat} : ∀ (n : Nat) {F G : Fn} (a b : Rat), (∀ w : List Int, w.length = n → (∀ c ∈ w, 0 ≤ c ∧ c < (wide : Int)) → F w = G w) → S wide n F a b = S wide n G a b
  | 0, F, G, a, b, h => by simp only [S]; rw [h [] rfl fun c hc => nomatch hc]
  | n + 1, F, G, a, b, h => by
    simp only [S]
    refine sm_congr wide fun i hi => ?_
    rw [S_congr n (F := fun w => F ((i : Int) :: w)) (G := fun w => G ((i : Int) :: w)) (i : Nat) b fun w hl hc => h _ (by simp [hl]) fun c hcm => ?_]
    rcases List.mem_cons.mp hcm with rfl | hcm
    · omega
    · exact hc c hcm
theorem S_add {wide : Nat} : ∀ (n : Nat) (F G : Fn) (a b : Rat), S wide n (fun w => F w + G w) a b = S wide n F a b + S wide n G a b
  | 0, F, G, a, b => by simp only [S]; grind
  | n + 1, F, G, a, b => by
    simp only [S]
    rw [← sm_add]
    refine sm_congr wide fun i _ => ?_
    rw [S_add n]; grind
theorem S_zero {wide : Nat} : ∀ (n : Nat) (a b : Rat), S wide n (fun _ => 0) a b = 0
  | 0, a, b => by simp only [S]; grind
  | n + 1, a, b => by
    simp only [S]
    rw [show sm wide (fun q => ((q : Nat) - a : Rat) * S wide n (fun _ => 0) (q : Nat) b) = sm wide (fun _ => 0) from sm_congr wide fun i _ => by rw [S_zero n]; grind]
    exact sm_zero wide
theorem S_mul {wide : Nat} (c : Rat) : ∀ (n : Nat) (F : Fn) (a b : Rat), S wide n (fun w => F w * c) a b = c * S wide n F a b
  | 0, F, a, b => by simp only [S]; grind
  | n + 1, F, a, b => by
    simp only [S]
    have hm : ∀ (m : Nat) (f : Nat → Rat), sm m (fun q => c * f q) = c * sm m f := by
      intro m f
      induction m with
      | zero => simp only [sm]; grind
      | succ m ih => simp only [sm]; rw [ih]; grind
    rw [← hm]
    refine sm_congr wide fun i _ => ?_
    rw [S_mul c n]; grind
/-- words that begin with p: what is behind it -/
def at1 (p : Int) (G : Fn) : Fn
  | [] => 0
  | q :: w => if q = p then G w else 0
theorem S_at1 {wide : Nat} {p : Nat} (hp : p < wide) (n : Nat) (G : Fn) (a b : Rat) : S wide (n + 1) (at1 (p : Int) G) a b = ((p : Nat) - a : Rat) * S wide n G (p : Nat) b := by
  simp only [S]
  rw [← sm_one wide p (((p : Nat) - a : Rat) * S wide n G (p : Nat) b) hp]
  refine sm_congr wide fun i hi => ?_
  by_cases e : i = p
  · subst e
    rw [if_pos rfl]
    congr 2
    funext w
    simp [at1]
  · rw [if_neg e]
    have : (fun w : List Int => at1 (p : Int) G ((i : Int) :: w)) = fun _ => 0 := by
      funext w
      have e2 : ¬ (i : Int) = (p : Int) := by omega
      simp [at1, e2]
    rw [this, S_zero]; grind
/-- twice the same letter: nothing -/
theorem S_at2 {wide : Nat} {p : Nat} (hp : p < wide) (n : Nat) (G : Fn) (b : Rat) : S wide n (at1 (p : Int) G) (p : Nat) b = 0 := by
  cases n with
  | zero => simp only [S, at1]; grind
  | succ n => rw [S_at1 hp]; grind
theorem go_at (p : Int) (x : Rat) (F : Fn) (k : Nat) (m : Rat) : go p x F k m = at1 p (fun w => F w * (m * (x / (k : Rat))) + go p x F (k + 1) (m * (x / (k : Rat))) w) := by
  funext w
  cases w <;> simp [go, at1]
theorem S_go {wide : Nat} {p : Nat} (hp : p < wide) (x : Rat) (F : Fn) (n : Nat) (k : Nat) (m : Rat) (b : Rat) : S wide n (go (p : Int) x F k m) (p : Nat) b = 0 := by
  rw [go_at]; exact S_at2 hp n _ b
theorem S_E {wide : Nat} {p : Nat} (hp : p < wide) (x : Rat) (F : Fn) (n : Nat) (a b : Rat) :
    S wide (n + 1) (E (p : Int) x F) a b = S wide (n + 1) F a b + x * ((p : Nat) - a : Rat) * S wide n F (p : Nat) b := by
  unfold E
  rw [S_add, go_at, S_at1 hp, S_add, S_mul, S_go hp]
  have e1 : ((1 : Nat) : Rat) = 1 := rfl
  rw [e1]; grind
theorem S_E0 {wide : Nat} (p : Int) (x : Rat) (F : Fn) (a b : Rat) : S wide 0 (E p x F) a b = S wide 0 F a b := by
  simp only [S, E0]
/-- the worths of a pile -/
def wr : Row → Fn
  | [] => eps
  | a :: t => E a.1 a.2 (wr t)
theorem wr_eq : ∀ t : Row, wr t = wo t.reverse
  | [] => rfl
  | a :: t => by rw [List.reverse_cons, show wo (t.reverse ++ [a]) = E a.1 a.2 (wo t.reverse) from on_snoc .., ← wr_eq t]; rfl
def Below (wide : Nat) (r : Row) : Prop := ∀ a ∈ r, 0 ≤ a.1 ∧ a.1 < (wide : Int)
theorem Below.tail {wide : Nat} {a : Int × Rat} {t : Row} (h : Below wide (a :: t)) : Below wide t := fun b hb => h b (List.mem_cons_of_mem _ hb)
theorem Below.head {wide : Nat} {a : Int × Rat} {t : Row} (h : Below wide (a :: t)) : ∃ p : Nat, p < wide ∧ a.1 = (p : Int) := by
  have := h a (List.mem_cons_self ..)
  exact ⟨a.1.toNat, by omega, by omega⟩
/-- fewer pairs than letters: nothing -/
theorem S_few {wide : Nat} : ∀ (t : Row) (n : Nat) (a b : Rat), Below wide t → t.length < n → S wide n (wr t) a b = 0
  | [], n, a, b, _, h => by
    obtain ⟨m, rfl⟩ : ∃ m, n = m + 1 := ⟨n - 1, by simp at h; omega⟩
    simp only [S, wr]
    rw [show sm wide (fun q => ((q : Nat) - a : Rat) * S wide m (fun w => eps ((q : Int) :: w)) (q : Nat) b) = sm wide (fun _ => 0) from sm_congr wide fun i _ => ?_]
    · exact sm_zero wide
    · rw [show (fun w : List Int => eps ((i : Int) :: w)) = fun _ => 0 from by funext w; simp [eps], S_zero]; grind
  | c :: t, n, a, b, hb, h => by
    obtain ⟨m, rfl⟩ : ∃ m, n = m + 1 := ⟨n - 1, by simp at h; omega⟩
    obtain ⟨p, hp, e⟩ := hb.head
    simp only [List.length_cons] at h
    simp only [wr]
    rw [e, S_E hp, S_few t (m + 1) a b hb.tail (by omega), S_few t m _ b hb.tail (by omega)]; grind
/-- the parts of a pile differ from step to step, from a to b -/
def Chain : Row → Rat → Rat → Prop
  | [], a, b => b - a ≠ 0
  | c :: t, a, b => c.2 ≠ 0 ∧ (c.1 : Rat) - a ≠ 0 ∧ Chain t (c.1 : Rat) b
theorem mul_ne {x y : Rat} (hx : x ≠ 0) (hy : y ≠ 0) : x * y ≠ 0 := by
  intro h
  rcases Rat.mul_eq_zero.mp h with e | e
  · exact hx e
  · exact hy e
theorem S_full {wide : Nat} : ∀ (t : Row) (a b : Rat), Below wide t → Chain t a b → S wide t.length (wr t) a b ≠ 0
  | [], a, b, _, h => by
    simp only [List.length_nil, S, wr]
    have e1 : eps [] = 1 := rfl
    have : eps [] * (b - a) = b - a := by rw [e1]; grind
    rw [this]; exact h
  | c :: t, a, b, hb, h => by
    obtain ⟨p, hp, e⟩ := hb.head
    obtain ⟨h1, h2, h3⟩ := h
    simp only [List.length_cons, wr]
    rw [e, S_E hp, S_few t (t.length + 1) a b hb.tail (by omega)]
    have e2 : ((c.1 : Int) : Rat) = ((p : Nat) : Rat) := by rw [e]; rfl
    rw [e2] at h2 h3
    have k := S_full t (p : Nat) b hb.tail h3
    have := mul_ne (mul_ne h1 h2) k
    intro z
    apply this
    grind
/-- at most n pairs, and the first one's part (the pile's last) is b: nothing -/
theorem S_none {wide : Nat} : ∀ (t : Row) (n : Nat) (a : Rat) (b : Int), Below wide t → t.length ≤ n → 1 ≤ n → (∀ c ∈ t.getLast?, c.1 = b) → S wide n (wr t) a (b : Rat) = 0
  | [], n, a, b, hB, _, h1, _ => S_few [] n a b hB (by simp; omega)
  | [c], n, a, b, hB, hl, h1, hL => by
    obtain ⟨m, rfl⟩ : ∃ m, n = m + 1 := ⟨n - 1, by omega⟩
    obtain ⟨p, hp, e⟩ := hB.head
    have eb : c.1 = b := hL c rfl
    subst eb
    simp only [wr]
    rw [e, S_E hp]
    rw [show eps = wr [] from rfl, S_few [] (m + 1) a _ hB.tail (by simp)]
    cases m with
    | zero =>
      have e2 : ((p : Int) : Rat) = ((p : Nat) : Rat) := rfl
      simp only [S]; rw [e2]; grind
    | succ m => rw [S_few [] (m + 1) _ _ hB.tail (by simp)]; grind
  | c :: d :: t, n, a, b, hB, hl, h1, hL => by
    obtain ⟨m, rfl⟩ : ∃ m, n = m + 1 := ⟨n - 1, by omega⟩
    obtain ⟨p, hp, e⟩ := hB.head
    simp only [List.length_cons] at hl
    have hL' : ∀ c ∈ (d :: t).getLast?, c.1 = b := fun x hx => hL x (by rw [List.getLast?_cons_cons]; exact hx)
    rw [show wr (c :: d :: t) = E c.1 c.2 (wr (d :: t)) from rfl, e, S_E hp, S_none (d :: t) (m + 1) a b hB.tail (by simp; omega) (by omega) hL',
      S_none (d :: t) m _ b hB.tail (by simp; omega) (by omega) hL']
    grind
end Lk

namespace Lk
/-! ## shuffles -/
structure Ch (F : Fn) : Prop where
  c0 : F [] = 1
  c11 : ∀ a b, F [a] * F [b] = F [a, b] + F [b, a]
  c12 : ∀ a b c, F [a] * F [b, c] = F [a, b, c] + F [b, a, c] + F [b, c, a]
  c13 : ∀ a b c d, F [a] * F [b, c, d] = F [a, b, c, d] + F [b, a, c, d] + F [b, c, a, d] + F [b, c, d, a]
  c22 : ∀ a b c d, F [a, b] * F [c, d] = F [a, b, c, d] + F [a, c, b, d] + F [a, c, d, b] + F [c, a, b, d] + F [c, a, d, b] + F [c, d, a, b]
theorem ch_eps : Ch eps := by
  constructor <;> intros <;> simp [eps] <;> grind
theorem ch_E {F : Fn} (h : Ch F) (p : Int) (x : Rat) : Ch (E p x F) := by
  obtain ⟨h0, h11, h12, h13, h22⟩ := h
  constructor
  · rw [E0, h0]
  · intro a b
    have := h11 a b
    simp only [E1, E2, h0]; grind
  · intro a b c
    have := h12 a b c
    have := h11 a b
    have := h11 a c
    have := h11 b c
    simp only [E1, E2, E3, h0]; grind
  · intro a b c d
    have := h13 a b c d
    have := h12 a c d
    have := h12 a b c
    have := h11 a c
    have := h11 a d
    simp only [E1, E2, E3, E4, h0]; grind
  · intro a b c d
    have := h22 a b c d
    have := h12 b c d
    have := h12 d a b
    have := h11 b d
    simp only [E1, E2, E3, E4, h0]; grind
theorem ch_on : ∀ (r : Row) {F : Fn}, Ch F → Ch (on r F)
  | [], _, h => h
  | a :: r, _, h => ch_on r (ch_E h a.1 a.2)
theorem ch_wo (r : Row) : Ch (wo r) := ch_on r ch_eps
def shufN : Nat → List Int → List Int → List (List Int)
  | _, [], v => [v]
  | _, a :: u, [] => [a :: u]
  | 0, a :: u, b :: v => [a :: u ++ b :: v]
  | n + 1, a :: u, b :: v => (shufN n u (b :: v)).map (a :: ·) ++ (shufN n (a :: u) v).map (b :: ·)
def shuf (u v : List Int) : List (List Int) := shufN (u.length + v.length) u v
def tot (f : List Int → Rat) : List (List Int) → Rat
  | [] => 0
  | w :: l => f w + tot f l
def un (F : Fn) : List Int → Rat := fun w => F w.reverse
theorem ch_shuf {F : Fn} (h : Ch F) : ∀ u v : List Int, u.length + v.length ≤ 4 → un F u * un F v = tot (un F) (shuf u v)
  | [], v, _ => by simp only [shuf, shufN, tot, un, List.reverse_nil, h.c0]; grind
  | a :: u, [], _ => by simp only [shuf, shufN, tot, un, List.reverse_nil, h.c0]; grind
  | [a], [b], _ => by
    have := h.c11 a b
    simp [shuf, shufN, tot, un]; grind
  | [a], [b, c], _ => by
    have := h.c12 a c b
    simp [shuf, shufN, tot, un]; grind
  | [a], [b, c, d], _ => by
    have := h.c13 a d c b
    simp [shuf, shufN, tot, un]; grind
  | [a, b], [c], _ => by
    have := h.c12 c b a
    simp [shuf, shufN, tot, un]; grind
  | [a, b], [c, d], _ => by
    have := h.c22 b a d c
    simp [shuf, shufN, tot, un]; grind
  | [a, b, c], [d], _ => by
    have := h.c13 d c b a
    simp [shuf, shufN, tot, un]; grind
  | [_], _ :: _ :: _ :: _ :: _, h => absurd h (by simp; omega)
  | [_, _], _ :: _ :: _ :: _, h => absurd h (by simp; omega)
  | [_, _, _], _ :: _ :: _, h => absurd h (by simp; omega)
  | _ :: _ :: _ :: _ :: _, _ :: _, h => absurd h (by simp; omega)
/-! ### words in order, the Lyndon ones among them -/
def more (wide : Nat) (l : List (List Int)) : List (List Int) := l.flatMap fun own => (List.range wide).map fun k => own ++ [((k : Nat) : Int)]
def lastW (wide : Nat) : Nat → List (List Int)
  | 0 => [[]]
  | n + 1 => more wide (lastW wide n)
def words (wide : Nat) : Nat → List (List Int)
  | 0 => [[]]
  | n + 1 => words wide n ++ lastW wide (n + 1)
def ltW : List Int → List Int → Bool
  | [], [] => false
  | [], _ :: _ => true
  | _ :: _, [] => false
  | a :: u, b :: v => decide (a < b) || (decide (a = b) && ltW u v)
def isLyn (w : List Int) : Bool := !w.isEmpty && (List.range w.length).all fun k => k == 0 || ltW w (w.drop k)
def lynd (wide n : Nat) : List (List Int) := (words wide n).filter isLyn
def told (L prev : List (List Int)) (w : List Int) : Bool :=
  w.isEmpty || L.contains w || (List.range w.length).any fun k => prev.contains (w.take k) && prev.contains (w.drop k) && (shuf (w.take k) (w.drop k)).contains w &&
    (shuf (w.take k) (w.drop k)).all fun x => x == w || prev.contains x
def check (L : List (List Int)) : List (List Int) → List (List Int) → Bool
  | _, [] => true
  | prev, w :: l => told L prev w && check L (w :: prev) l
theorem check_all : ∀ wide ∈ [2, 3], ∀ n ∈ [1, 2, 3, 4], check (lynd wide n) [] (words wide n) = true := by decide +kernel
theorem tot_diff {f g : List Int → Rat} {w : List Int} : ∀ (l : List (List Int)), (∀ x ∈ l, x = w ∨ f x = g x) → tot f l - tot g l = ((l.count w : Nat) : Rat) * (f w - g w)
  | [], _ => by simp only [tot, List.count_nil]; grind
  | x :: l, h => by
    have k := tot_diff l fun y hy => h y (List.mem_cons_of_mem _ hy)
    simp only [tot, List.count_cons]
    by_cases e : x = w
    · subst e
      rw [if_pos (by simp)]
      have e1 : ((l.count x + 1 : Nat) : Rat) = ((l.count x : Nat) : Rat) + 1 := Rat.natCast_add _ _
      rw [e1]; grind
    · rcases h x (List.mem_cons_self ..) with h1 | h1
      · exact absurd h1 e
      · rw [if_neg (by simpa using e), h1]
        simp only [Nat.add_zero]; grind
theorem told_eq {F G : Fn} (hF : Ch F) (hG : Ch G) {L prev : List (List Int)} (hL : ∀ x ∈ L, un F x = un G x) (hp : ∀ x ∈ prev, un F x = un G x) {w : List Int} (hw : w.length ≤ 4) (h : told L prev w = true) : un F w = un G w := by
  unfold told at h
  simp only [Bool.or_eq_true, List.any_eq_true, Bool.and_eq_true, List.all_eq_true, beq_iff_eq, List.contains_iff_mem, List.mem_range, List.isEmpty_iff] at h
  rcases h with (h | h) | ⟨k, hk, ⟨⟨h1, h2⟩, h3⟩, h4⟩
  · subst h; simp [un, hF.c0, hG.c0]
  · exact hL _ h
  · have hl : (w.take k).length + (w.drop k).length ≤ 4 := by simp; omega
    have a := ch_shuf hF _ _ hl
    have b := ch_shuf hG _ _ hl
    rw [hp _ h1, hp _ h2] at a
    have c := tot_diff (f := un F) (g := un G) (w := w) (shuf (w.take k) (w.drop k)) fun x hx => (h4 x hx).imp id (hp x)
    rw [← a, ← b] at c
    have z : ((List.count w (shuf (w.take k) (w.drop k)) : Nat) : Rat) ≠ 0 := by
      have := List.count_pos_iff.mpr h3
      intro q
      have q2 : List.count w (shuf (w.take k) (w.drop k)) = 0 := by exact_mod_cast q
      omega
    have c2 : ((List.count w (shuf (w.take k) (w.drop k)) : Nat) : Rat) * (un F w - un G w) = 0 := by rw [← c]; grind
    rcases Rat.mul_eq_zero.mp c2 with e | e
    · exact absurd e z
    · grind
theorem check_eq {F G : Fn} (hF : Ch F) (hG : Ch G) {L : List (List Int)} (hL : ∀ x ∈ L, un F x = un G x) : ∀ (l prev : List (List Int)), (∀ x ∈ prev, un F x = un G x) → (∀ x ∈ l, x.length ≤ 4) → check L prev l = true → ∀ x ∈ l, un F x = un G x
  | [], _, _, _, _, _, hx => nomatch hx
  | w :: l, prev, hp, h4, h, x, hx => by
    simp only [check, Bool.and_eq_true] at h
    have e := told_eq hF hG hL hp (h4 w (List.mem_cons_self ..)) h.1
    rcases List.mem_cons.mp hx with rfl | hx
    · exact e
    · refine check_eq hF hG hL l (w :: prev) (fun y hy => ?_) (fun y hy => h4 y (List.mem_cons_of_mem _ hy)) h.2 x hx
      rcases List.mem_cons.mp hy with rfl | hy
      · exact e
      · exact hp y hy
theorem mem_lastW {wide : Nat} : ∀ (n : Nat) (w : List Int), w.length = n → (∀ c ∈ w, 0 ≤ c ∧ c < (wide : Int)) → w ∈ lastW wide n
  | 0, w, h, _ => by rw [List.length_eq_zero_iff.mp h]; simp [lastW]
  | n + 1, w, h, hc => by
    have hw : w ≠ [] := by intro z; subst z; simp at h
    have e := List.dropLast_concat_getLast hw
    have hm := hc (w.getLast hw) (List.getLast_mem hw)
    simp only [lastW, more, List.mem_flatMap, List.mem_map, List.mem_range]
    refine ⟨w.dropLast, mem_lastW n _ (by simp [h]) (fun c hcm => hc c ((List.dropLast_sublist w).subset hcm)), (w.getLast hw).toNat, by omega, ?_⟩
    rw [show (((w.getLast hw).toNat : Nat) : Int) = w.getLast hw by omega]
    exact e
theorem mem_words {wide : Nat} : ∀ (n : Nat) (w : List Int), w.length ≤ n → (∀ c ∈ w, 0 ≤ c ∧ c < (wide : Int)) → w ∈ words wide n
  | 0, w, h, _ => by
    have e : w = [] := List.length_eq_zero_iff.mp (by omega)
    subst e; simp [words]
  | n + 1, w, h, hc => by
    simp only [words, List.mem_append]
    by_cases e : w.length ≤ n
    · exact .inl (mem_words n w e hc)
    · exact .inr (mem_lastW (n + 1) w (by omega) hc)
theorem len_lastW {wide : Nat} : ∀ (n : Nat) (w : List Int), w ∈ lastW wide n → w.length = n ∧ ∀ c ∈ w, 0 ≤ c ∧ c < (wide : Int)
  | 0, w, h => by simp [lastW] at h; subst h; exact ⟨rfl, fun c hc => nomatch hc⟩
  | n + 1, w, h => by
    simp only [lastW, more, List.mem_flatMap, List.mem_map, List.mem_range] at h
    obtain ⟨own, h1, k, hk, rfl⟩ := h
    obtain ⟨a, b⟩ := len_lastW n own h1
    refine ⟨by simp [a], fun c hc => ?_⟩
    rcases List.mem_append.mp hc with hc | hc
    · exact b c hc
    · simp at hc; omega
theorem len_words {wide : Nat} : ∀ (n : Nat) (w : List Int), w ∈ words wide n → w.length ≤ n ∧ ∀ c ∈ w, 0 ≤ c ∧ c < (wide : Int)
  | 0, w, h => by simp [words] at h; subst h; exact ⟨Nat.le_refl _, fun c hc => nomatch hc⟩
  | n + 1, w, h => by
    simp only [words, List.mem_append] at h
    rcases h with h | h
    · obtain ⟨a, b⟩ := len_words n w h; exact ⟨by omega, b⟩
    · obtain ⟨a, b⟩ := len_lastW _ w h; exact ⟨by omega, b⟩
/-- equal marks: equal worths of all words of at most n letters -/
theorem eqn_of_marks {wide n : Nat} (hw : wide = 2 ∨ wide = 3) (h1 : 1 ≤ n) (h4 : n ≤ 4) {a b : Row} (h : ∀ w ∈ lynd wide n, worth a w = worth b w) : Eqn (wide : Int) n (wo a) (wo b) := by
  have hc : check (lynd wide n) [] (words wide n) = true := by
    refine check_all wide ?_ n ?_
    · rcases hw with rfl | rfl <;> simp
    · simp; omega
  intro w o
  have := check_eq (ch_wo a) (ch_wo b) (L := lynd wide n) h (words wide n) [] (fun x hx => nomatch hx) (fun x hx => Nat.le_trans (len_words n x hx).1 h4) hc w.reverse
    (mem_words n _ (by simpa using o.1) fun c hcm => o.2 c (by simpa using hcm))
  simpa [un] using this
end Lk

namespace Lk
/-! ## the plain law -/
theorem hd_eq {a : Int × Rat} {r : Row} : hd (a :: r) = a.1 := rfl
theorem chain_of : ∀ (t : Row) (q : Int × Rat) (b : Int), Nm (q :: t) → (∀ c ∈ (q :: t).getLast?, c.1 ≠ b) → Chain t (q.1 : Rat) (b : Rat)
  | [], q, b, _, hl => by
    have h := hl q rfl
    show (b : Rat) - (q.1 : Rat) ≠ 0
    intro z
    have e : (b : Rat) = (q.1 : Rat) := by grind
    exact h (Rat.intCast_inj.mp e).symm
  | c :: t, q, b, h, hl => by
    refine ⟨h.tail.head, ?_, chain_of t c b h.tail fun x hx => hl x (by rw [List.getLast?_cons_cons]; exact hx)⟩
    have hne := h.ne
    intro z
    have e : (c.1 : Rat) = (q.1 : Rat) := by grind
    exact hne (Rat.intCast_inj.mp e).symm
theorem nm_drop : ∀ (u t : Row), Nm (u ++ t) → Nm t
  | [], _, h => h
  | a :: u, t, h => nm_drop u t (Nm.tail (a := a) (t := u ++ t) h)
theorem below_inv {wide : Nat} {r : Row} (h : Below wide r) : Below wide (inv r) := by
  intro a ha
  unfold inv at ha
  simp only [List.mem_reverse, List.mem_map] at ha
  obtain ⟨b, hb, rfl⟩ := ha
  exact h b hb
theorem below_app {wide : Nat} {r s : Row} (h : Below wide r) (h2 : Below wide s) : Below wide (r ++ s) := fun a ha => (List.mem_append.mp ha).elim (h a) (h2 a)
theorem below_rev {wide : Nat} {r : Row} (h : Below wide r) : Below wide r.reverse := fun a ha => h a (List.mem_reverse.mp ha)
theorem below_pu {wide : Nat} {t : Row} {a : Int × Rat} (h : Below wide t) (h2 : 0 ≤ a.1 ∧ a.1 < (wide : Int)) : Below wide (pu t a) := by
  obtain ⟨p, x⟩ := a
  cases t with
  | nil =>
    rw [pu_nil]
    split
    · exact h
    · intro b hb; simp at hb; subst hb; exact h2
  | cons b t =>
    obtain ⟨q, y⟩ := b
    have key : Below wide ((p, y + x) :: t) := fun b hb => by
      rcases List.mem_cons.mp hb with rfl | hb
      · exact h2
      · exact h.tail b hb
    have key2 : Below wide ((p, x) :: (q, y) :: t) := fun b hb => by
      rcases List.mem_cons.mp hb with rfl | hb
      · exact h2
      · exact h b hb
    simp only [pu]
    split
    · split
      · exact h.tail
      · exact key
    · split
      · exact h
      · exact key2
theorem below_fold {wide : Nat} : ∀ (r : Row) {t : Row}, Below wide t → Below wide r → Below wide (r.foldl pu t)
  | [], _, h, _ => h
  | a :: r, _, h, h2 => below_fold r (below_pu h (h2 a (List.mem_cons_self ..))) h2.tail
theorem below_nf {wide : Nat} {r : Row} (h : Below wide r) : Below wide (nf r) := below_rev (below_fold r (fun _ ha => nomatch ha) h)
theorem below_turn {wide : Nat} {r : Row} (h : Below wide r) : Below wide (turnR r) := by
  unfold turnR
  split
  · refine below_nf (below_app (fun a ha => h a (List.mem_of_mem_tail ha)) fun a ha => h a (List.mem_of_mem_take ha))
  · exact h
theorem below_laps {wide : Nat} : ∀ (n : Nat) {r : Row}, Below wide r → Below wide (laps n r)
  | 0, _, h => h
  | n + 1, _, h => below_laps n (below_turn h)
theorem below_ring {wide : Nat} {r : Row} (h : Below wide r) : Below wide (ring r) := below_laps _ (below_nf h)
theorem inv_len (r : Row) : (inv r).length = r.length := by simp [inv]
/-- a still normal ring that moves nothing up to half its pairs is none -/
theorem still_none {wide : Nat} {r : Row} (hB : Below wide r) (hN : Nm r.reverse) (hS : Still r) (n : Nat) (hn : n = max 1 (r.length / 2)) (h4 : n ≤ 4) (h : Eqn (wide : Int) n (wo r) eps) : r = [] := by
  refine Classical.byContradiction fun hr => ?_
  by_cases h1 : r.length = 1
  · obtain ⟨a, rfl⟩ := List.length_eq_one_iff.mp h1
    have e := h [a.1] ⟨by simp at hn; simp [hn], fun c hc => by simp at hc; subst hc; exact hB a (List.mem_cons_self ..)⟩
    have e2 : wo [a] [a.1] = a.2 := by
      show E a.1 a.2 eps [a.1] = a.2
      rw [E1]; simp [eps, dl]; grind
    rw [e2] at e
    exact hN e
  · have hlen : 2 ≤ r.length := by
      have : r.length ≠ 0 := fun z => hr (List.length_eq_zero_iff.mp z)
      omega
    have hn1 : 1 ≤ n := by omega
    have hn2 : n = r.length / 2 := by omega
    -- r = P ++ [q] ++ R
    obtain ⟨q, R, hq⟩ : ∃ q R, r.drop n = q :: R := by
      cases e : r.drop n with
      | nil => have := congrArg List.length e; simp at this; omega
      | cons q R => exact ⟨q, R, rfl⟩
    have er : r = r.take n ++ q :: R := by rw [← hq, List.take_append_drop]
    have hP : (r.take n).length = n := by simp; omega
    have hR : R.length ≤ n := by
      have := congrArg List.length hq
      simp at this; omega
    generalize r.take n = P at er hP
    subst er
    have hBP : Below wide P := fun a ha => hB a (List.mem_append_left _ ha)
    have hBq := hB q (List.mem_append_right _ (List.mem_cons_self ..))
    have hBR : Below wide R := fun a ha => hB a (List.mem_append_right _ (List.mem_cons_of_mem _ ha))
    have hends : hd (P ++ q :: R) ≠ lt (P ++ q :: R) := by
      rcases hS with h0 | h0
      · omega
      · exact h0
    -- P and q ahead, R undone
    have k1 : Eqn (wide : Int) n (wo (P ++ [q])) (wo (inv R)) := by
      have a1 : Eqn (wide : Int) n (wo ((P ++ q :: R) ++ inv R)) (wo ([] ++ inv R)) := behind (inv R) h
      have a2 : Eqn (wide : Int) n (wo ((P ++ [q]) ++ (R ++ inv R))) (wo ((P ++ [q]) ++ [])) := ahead h4 _ ((wo_inv R).eqn h4)
      have e1 : (P ++ q :: R) ++ inv R = (P ++ [q]) ++ (R ++ inv R) := by simp
      rw [e1] at a1
      rw [List.append_nil] at a2
      exact (Eqn.symm a2).trans a1
    obtain ⟨w, hw, ew⟩ : ∃ w : Nat, w < wide ∧ q.1 = (w : Int) := ⟨q.1.toNat, by omega, by omega⟩
    have k2 : S wide n (wo (P ++ [q])) (q.1 : Rat) (lt (P ++ q :: R) : Rat) = S wide n (wo (inv R)) (q.1 : Rat) (lt (P ++ q :: R) : Rat) :=
      S_congr n _ _ fun v hv hc => k1 v ⟨by omega, hc⟩
    -- the right one is nothing
    have k3 : S wide n (wo (inv R)) (q.1 : Rat) (lt (P ++ q :: R) : Rat) = 0 := by
      have e : wo (inv R) = wr (R.map fun a => (a.1, -a.2)) := by rw [wr_eq]; rfl
      rw [e]
      refine S_none _ n _ _ ?_ (by simp; exact hR) hn1 ?_
      · intro a ha
        simp only [List.mem_map] at ha
        obtain ⟨b, hb, rfl⟩ := ha
        exact hBR b hb
      · intro c hc
        rw [List.getLast?_map] at hc
        cases eR : R.getLast? with
        | none => rw [eR] at hc; cases hc
        | some z =>
          rw [eR] at hc
          cases hc
          have : (P ++ q :: R).getLast? = some z := by
            rw [List.getLast?_append, List.getLast?_cons, eR]; rfl
          simp only [lt, this]; rfl
    -- the left one is not
    obtain ⟨m, rfl⟩ : ∃ m, n = m + 1 := ⟨n - 1, by omega⟩
    have e3 : wo (P ++ [q]) = E (w : Int) q.2 (wr P.reverse) := by rw [wr_eq, List.reverse_reverse, ← ew]; exact on_snoc ..
    have ew2 : ((q.1 : Int) : Rat) = ((w : Nat) : Rat) := by rw [ew]; rfl
    rw [k3, e3, S_E hw, ew2] at k2
    have k4 : S wide (m + 1) (wr P.reverse) ((w : Nat) : Rat) (lt (P ++ q :: R) : Rat) = 0 := by rw [← k2]; grind
    have hlP : P.reverse.length = m + 1 := by rw [List.length_reverse]; exact hP
    have k5 := S_full (wide := wide) P.reverse ((w : Nat) : Rat) (lt (P ++ q :: R) : Rat) (below_rev hBP) (by
      rw [← ew2]
      refine chain_of P.reverse q _ ?_ ?_
      · have e : (P ++ q :: R).reverse = R.reverse ++ (q :: P.reverse) := by simp
        rw [e] at hN
        exact nm_drop _ _ hN
      · intro c hc
        have e : (q :: P.reverse).getLast? = P.head? := by
          cases P with
          | nil => simp at hP
          | cons a P => rw [List.reverse_cons, show q :: (P.reverse ++ [a]) = (q :: P.reverse) ++ [a] from rfl, List.getLast?_concat]; rfl
        rw [e] at hc
        cases P with
        | nil => cases hc
        | cons a P => cases hc; exact hends)
    rw [hlP] at k5
    exact k5 k4
/-- the power at which the marks are asked -/
def topOf (a b : Row) : Nat := max 1 ((ring (a ++ inv b)).length / 2)
theorem law_plain {wide : Nat} (hw : wide = 2 ∨ wide = 3) {a b : Row} (ha : Below wide a) (hb : Below wide b) (h4 : topOf a b ≤ 4) :
    (∀ w ∈ lynd wide (topOf a b), worth a w = worth b w) ↔ ring (a ++ inv b) = [] := by
  constructor
  · intro h
    have k := eqn_of_marks hw (Nat.le_max_left _ _) h4 h
    obtain ⟨h1, _, h3⟩ := ring_end (a ++ inv b)
    exact still_none (below_ring (below_app ha (below_inv hb))) h1 h3 _ rfl h4 (ring_eps h4 k)
  · intro h w hm
    have e : Eq4 (wo a) (wo b) := by
      refine wo_of_nfr ?_
      have := (ring_iff a b).mp h
      unfold nf at this
      simpa using congrArg List.reverse this
    have hl := (len_words _ w (List.mem_filter.mp hm).1).1
    exact e w.reverse (by simp; omega)
/-- the whole ring, and the other row undone behind it -/
theorem joined_same (a b : Row) : (nf (a ++ inv b) = nf []) ↔ ring (a ++ inv b) = [] := by
  rw [ring_iff]
  have e := same_iff a b
  unfold nf
  have e0 : nfr [] = [] := rfl
  rw [e0]
  constructor
  · intro h
    have : nfr (a ++ inv b) = [] := by simpa using congrArg List.reverse h
    rw [e.mp this]
  · intro h
    have : nfr a = nfr b := by simpa using congrArg List.reverse h
    rw [e.mpr this]
end Lk

namespace Lk
/-! ## sizes: x = k / D with |k| at most M -/
def In (D M : Nat) (x : Rat) : Prop := ∃ k : Int, x * (D : Rat) = (k : Rat) ∧ k.natAbs ≤ M
theorem In.mono {D M N : Nat} {x : Rat} (h : In D M x) (hm : M ≤ N) : In D N x := by
  obtain ⟨k, h1, h2⟩ := h
  exact ⟨k, h1, Nat.le_trans h2 hm⟩
theorem In.add {D M N : Nat} {x y : Rat} (h : In D M x) (h' : In D N y) : In D (M + N) (x + y) := by
  obtain ⟨k, h1, h2⟩ := h
  obtain ⟨l, h3, h4⟩ := h'
  refine ⟨k + l, ?_, ?_⟩
  · rw [Rat.intCast_add, ← h1, ← h3]; grind
  · have := Int.natAbs_add_le k l; omega
theorem In.mul {D E M N : Nat} {x y : Rat} (h : In D M x) (h' : In E N y) : In (D * E) (M * N) (x * y) := by
  obtain ⟨k, h1, h2⟩ := h
  obtain ⟨l, h3, h4⟩ := h'
  refine ⟨k * l, ?_, ?_⟩
  · rw [Rat.intCast_mul, ← h1, ← h3, Rat.natCast_mul]; grind
  · rw [Int.natAbs_mul]; exact Nat.mul_le_mul h2 h4
theorem In.neg {D M : Nat} {x : Rat} (h : In D M x) : In D M (-x) := by
  obtain ⟨k, h1, h2⟩ := h
  refine ⟨-k, ?_, by omega⟩
  rw [Rat.intCast_neg, ← h1]; grind
theorem In.zero (D M : Nat) : In D M 0 := ⟨0, by
  have : ((0 : Int) : Rat) = 0 := rfl
  rw [this]; grind, Nat.zero_le _⟩
theorem In.one : In 1 1 1 := ⟨1, by
  have h1 : ((1 : Int) : Rat) = 1 := rfl
  have h2 : ((1 : Nat) : Rat) = 1 := rfl
  rw [h1, h2]; grind, by decide⟩
/-- numerator and denominator -/
theorem In.parts {D M : Nat} {x : Rat} (hD : D ≠ 0) (h : In D M x) : x.num.natAbs ≤ M ∧ x.den ≤ D := by
  obtain ⟨k, h1, h2⟩ := h
  have hd : (D : Rat) ≠ 0 := by
    intro z
    exact hD (by exact_mod_cast z)
  have e : x = mkRat k D := by
    rw [Rat.mkRat_eq_div, ← h1]; grind
  have hn : x.num = k / ((Nat.gcd k.natAbs D : Nat) : Int) := by
    rw [e, ← Rat.normalize_eq_mkRat hD, Rat.normalize_eq]
  have hdn : x.den = D / Nat.gcd k.natAbs D := by
    rw [e, ← Rat.normalize_eq_mkRat hD, Rat.normalize_eq]
  refine ⟨?_, by rw [hdn]; exact Nat.div_le_self _ _⟩
  rw [hn]
  refine Nat.le_trans ?_ h2
  have hdv : ((Nat.gcd k.natAbs D : Nat) : Int) ∣ k := by
    have := Nat.gcd_dvd_left k.natAbs D
    exact Int.ofNat_dvd_left.mpr this
  rw [Int.natAbs_ediv_of_dvd hdv, Int.natAbs_natCast]
  exact Nat.div_le_self _ _
/-- x over 1, 2, 3 or 4 -/
theorem In.quot {x : Rat} {M : Nat} (h : In 6 M x) {k : Nat} (h1 : 1 ≤ k) (h4 : k ≤ 4) : In 144 (24 * M) (x / (k : Rat)) := by
  obtain ⟨a, e, hm⟩ := h
  have hk : (k : Rat) ≠ 0 := by
    intro z
    have : k = 0 := by exact_mod_cast z
    omega
  obtain ⟨c, hc⟩ : ∃ c : Nat, 24 = k * c ∧ c ≤ 24 := by
    have : k = 1 ∨ k = 2 ∨ k = 3 ∨ k = 4 := by omega
    rcases this with rfl | rfl | rfl | rfl
    · exact ⟨24, by decide, by decide⟩
    · exact ⟨12, by decide, by decide⟩
    · exact ⟨8, by decide, by decide⟩
    · exact ⟨6, by decide, by decide⟩
  refine ⟨(c : Int) * a, ?_, ?_⟩
  · have e2 : ((144 : Nat) : Rat) = ((6 : Nat) : Rat) * (((k * c : Nat)) : Rat) := by rw [← hc.1, ← Rat.natCast_mul]
    rw [e2, Rat.intCast_mul, ← e, Rat.natCast_mul]
    have e3 : (((c : Nat) : Int) : Rat) = ((c : Nat) : Rat) := rfl
    rw [e3]; grind
  · rw [Int.natAbs_mul, Int.natAbs_natCast]
    exact Nat.mul_le_mul hc.2 hm
/-- a pair's FRACTION: sixths, at most four -/
abbrev Six (x : Rat) : Prop := In 6 24 x
theorem six_quot {x : Rat} (h : Six x) {k : Nat} (h1 : 1 ≤ k) (h4 : k ≤ 4) : In 144 576 (x / (k : Rat)) := (h.quot h1 h4).mono (by decide)
/-- bounds of the worths of a word's ends -/
def Bd (M : Nat) (F : Fn) (w : List Int) : Prop := ∀ v, v <:+ w → In (144 ^ v.length) M (F v)
theorem Bd.tail {M : Nat} {F : Fn} {q : Int} {w : List Int} (h : Bd M F (q :: w)) : Bd M F w := fun v hv => h v (hv.trans (List.suffix_cons q w))
theorem go_in {p : Int} {x : Rat} {F : Fn} {M : Nat} (hx : Six x) : ∀ (w : List Int) (k : Nat) (m : Rat), 1 ≤ k → k + w.length ≤ 5 → Bd M F w → In (144 ^ (k - 1)) (576 ^ (k - 1)) m →
    In (144 ^ (w.length + (k - 1))) (w.length * (M * 576 ^ 4)) (go p x F k m w)
  | [], k, m, _, _, _, _ => by simp only [go]; exact In.zero _ _
  | q :: w, k, m, h1, h5, hB, hm => by
    simp only [go]
    split
    · simp only [List.length_cons] at h5
      have hm' : In (144 ^ (k + 1 - 1)) (576 ^ (k + 1 - 1)) (m * (x / (k : Rat))) := by
        have := hm.mul (six_quot hx h1 (by omega))
        rw [← Nat.pow_succ, ← Nat.pow_succ] at this
        rw [show k + 1 - 1 = (k - 1).succ by omega]
        exact this
      have ih := go_in (p := p) hx w (k + 1) _ (by omega) (by omega) hB.tail hm'
      have h0 := (hB w (List.suffix_cons q w)).mul hm'
      rw [← Nat.pow_add] at h0
      have e : (q :: w).length + (k - 1) = w.length + (k + 1 - 1) := by simp; omega
      rw [e]
      refine ((h0.mono (N := M * 576 ^ 4) (Nat.mul_le_mul_left _ (Nat.pow_le_pow_right (by decide) (by omega)))).add ih).mono ?_
      simp only [List.length_cons, Nat.add_mul, Nat.one_mul]
      omega
    · exact In.zero _ _
theorem Bd.step {p : Int} {x : Rat} {F : Fn} {M : Nat} {w : List Int} (hx : Six x) (h4 : w.length ≤ 4) (h : Bd M F w) : Bd (M * 2 ^ 40) (E p x F) w := fun v hv => by
  have hl := hv.length_le
  unfold E
  have h1 := h v hv
  have h2 := go_in (p := p) (M := M) hx v 1 1 (by decide) (by omega) (fun u hu => h u (hu.trans hv)) (by simpa using In.one)
  refine (h1.add h2).mono ?_
  have h3 : v.length * (M * 576 ^ 4) ≤ 4 * (M * 576 ^ 4) := Nat.mul_le_mul_right _ (by omega)
  have e : M + 4 * (M * 576 ^ 4) = M * (1 + 4 * 576 ^ 4) := by
    rw [Nat.mul_add, Nat.mul_one, Nat.mul_left_comm]
  have h5 : M * (1 + 4 * 576 ^ 4) ≤ M * 2 ^ 40 := Nat.mul_le_mul_left _ (by decide)
  omega
theorem Bd.eps (w : List Int) : Bd 1 eps w := fun v _ => by
  unfold Lk.eps
  split
  · rename_i h; subst h; simpa using In.one
  · exact In.zero _ _
def SixR (r : Row) : Prop := ∀ a ∈ r, Six a.2
theorem Bd.on {w : List Int} (h4 : w.length ≤ 4) : ∀ (r : Row) (F : Fn) (M : Nat), SixR r → Bd M F w → Bd (M * 2 ^ (40 * r.length)) (on r F) w
  | [], F, M, _, h => by simpa [Lk.on] using h
  | a :: r, F, M, hr, h => by
    have := Bd.on h4 r (E a.1 a.2 F) (M * 2 ^ 40) (fun b hb => hr b (List.mem_cons_of_mem _ hb)) (h.step (hr a (List.mem_cons_self ..)) h4)
    rw [on_cons, List.length_cons, Nat.mul_add, Nat.mul_one, Nat.pow_add, Nat.mul_comm (2 ^ (40 * r.length)), ← Nat.mul_assoc]
    exact this
theorem Bd.wo {w : List Int} (h4 : w.length ≤ 4) {r : Row} (hr : SixR r) : Bd (2 ^ (40 * r.length)) (wo r) w := by
  have := Bd.on h4 r Lk.eps 1 hr (Bd.eps w)
  rw [Nat.one_mul] at this
  exact this
/-! ### the pile's sizes -/
/-- sixths, together at most n -/
def Wt : Row → Nat → Prop
  | [], _ => True
  | a :: t, n => ∃ m, m ≤ n ∧ In 6 m a.2 ∧ Wt t (n - m)
theorem Wt.mono : ∀ {r : Row} {m n : Nat}, Wt r m → m ≤ n → Wt r n
  | [], _, _, _, _ => trivial
  | a :: t, m, n, ⟨k, h1, h2, h3⟩, h => ⟨k, by omega, h2, h3.mono (by omega)⟩
theorem Wt.mem : ∀ {r : Row} {n : Nat}, Wt r n → ∀ a ∈ r, In 6 n a.2
  | b :: t, n, ⟨k, h1, h2, h3⟩, a, ha => by
    rcases List.mem_cons.mp ha with rfl | ha
    · exact h2.mono h1
    · exact (h3.mem a ha).mono (by omega)
theorem Wt.pu {t : Row} {n m : Nat} {a : Int × Rat} (h : Wt t n) (ha : In 6 m a.2) : Wt (pu t a) (n + m) := by
  obtain ⟨p, x⟩ := a
  cases t with
  | nil =>
    rw [pu_nil]
    split
    · trivial
    · exact ⟨m, by omega, ha, trivial⟩
  | cons b t =>
    obtain ⟨q, y⟩ := b
    obtain ⟨k, h1, h2, h3⟩ := h
    simp only [Lk.pu]
    split
    · split
      · exact h3.mono (by omega)
      · exact ⟨k + m, by omega, h2.add ha, h3.mono (by omega)⟩
    · split
      · exact ⟨k, by omega, h2, h3.mono (by omega)⟩
      · exact ⟨m, by omega, ha, k, by omega, h2, h3.mono (by omega)⟩
theorem Wt.fold : ∀ {r t : Row} {n m : Nat}, Wt t n → Wt r m → Wt (r.foldl Lk.pu t) (n + m)
  | [], t, n, m, h, _ => h.mono (by omega)
  | a :: r, t, n, m, h, ⟨k, h1, h2, h3⟩ => by
    have := Wt.fold (h.pu h2) h3
    exact this.mono (by omega)
theorem Wt.append : ∀ {r s : Row} {m n : Nat}, Wt r m → Wt s n → Wt (r ++ s) (m + n)
  | [], s, m, n, _, h => h.mono (by omega)
  | a :: r, s, m, n, ⟨k, h1, h2, h3⟩, h => ⟨k, by omega, h2, (h3.append h).mono (by omega)⟩
theorem Wt.reverse : ∀ {r : Row} {n : Nat}, Wt r n → Wt r.reverse n
  | [], _, _ => trivial
  | a :: r, n, ⟨k, h1, h2, h3⟩ => by
    rw [List.reverse_cons]
    exact (h3.reverse.append (s := [a]) (n := k) ⟨k, Nat.le_refl _, h2, trivial⟩).mono (by omega)
theorem Wt.neg : ∀ {r : Row} {n : Nat}, Wt r n → Wt (r.map fun a => (a.1, -a.2)) n
  | [], _, _ => trivial
  | a :: r, n, ⟨k, h1, h2, h3⟩ => ⟨k, h1, h2.neg, h3.neg⟩
theorem Wt.inv {r : Row} {n : Nat} (h : Wt r n) : Wt (inv r) n := h.neg.reverse
theorem Wt.take : ∀ {r : Row} {n : Nat} (i : Nat), Wt r n → Wt (r.take i) n
  | [], _, _, _ => by simp [Wt]
  | _ :: _, _, 0, _ => by simp [Wt]
  | a :: r, n, i + 1, ⟨k, h1, h2, h3⟩ => ⟨k, h1, h2, h3.take i⟩
theorem Wt.nf {r : Row} {n : Nat} (h : Wt r n) : Wt (nf r) n := by
  have := (Wt.fold (t := []) (n := 0) trivial h).reverse
  rw [Nat.zero_add] at this
  exact this
theorem Wt.rot {r : Row} {n : Nat} (h : Wt r n) : Wt (r.tail ++ r.take 1) n := by
  cases r with
  | nil => trivial
  | cons a r =>
    obtain ⟨k, h1, h2, h3⟩ := h
    exact (h3.append (s := [a]) (n := k) ⟨k, Nat.le_refl _, h2, trivial⟩).mono (by omega)
theorem Wt.turn {r : Row} {n : Nat} (h : Wt r n) : Wt (turnR r) n := by
  unfold turnR
  split
  · exact h.rot.nf
  · exact h
theorem Wt.laps : ∀ (i : Nat) {r : Row} {n : Nat}, Wt r n → Wt (laps i r) n
  | 0, _, _, h => h
  | i + 1, _, _, h => Wt.laps i h.turn
theorem SixR.wt : ∀ {r : Row}, SixR r → Wt r (24 * r.length)
  | [], _ => trivial
  | a :: r, h => ⟨24, by simp only [List.length_cons]; omega, h a (List.mem_cons_self ..), (SixR.wt fun b hb => h b (List.mem_cons_of_mem _ hb)).mono (by simp; omega)⟩
end Lk

set_option Elab.async false
set_option linter.all false
set_option maxRecDepth 100000
set_option maxHeartbeats 4000000
namespace L2
open PySem PySem.Spec PyProof.Rows
/-! ## the text by places -/
def topS (i : Nat) : Stmt := PySem.Challenge.pw_everychange_k29_across_unlike_rows_part.main.body.getD i (.Pass ⟨0, 0, 0, 0⟩)
/-! ## data -/
abbrev Row := Lk.Row
def dF (x : Rat) : PyData := .tuple [.int x.num, .int (x.den : Int)]
def dP (a : Int × Rat) : PyData := .tuple [.int a.1, dF a.2]
def dR (r : Row) : PyData := .tuple (r.map dP)
def dW (w : List Int) : PyData := .tuple (w.map PyData.int)
section
variable {K : PySem.W.Frag} {H H' : Hp}
/-- tuples kept -/
def Tk (K : PySem.W.Frag) (H H' : Hp) : Prop := ∀ a xs, SqT K H a xs → SqT K H' a xs
theorem Tk.refl : Tk K H H := fun _ _ h => h
theorem Tk.trans {H1 H2 H3 : Hp} (a : Tk K H1 H2) (b : Tk K H2 H3) : Tk K H1 H3 := fun _ _ h => b _ _ (a _ _ h)
theorem Same.tk (e : Same H H') : Tk K H H' := fun a xs h => by
  rcases h with (h | ⟨o, h⟩) | h
  · exact .inl (.inl (e _ _ h))
  · exact .inl (.inr ⟨o, e _ _ h⟩)
  · exact .inr h
theorem same_upd {p : Addr} {o : HO} (h : H p = none) : Same H (upd H p o) := fun b x e => by
  rw [upd_ne (ne_of_none e h)]
  exact e
mutual
theorem Dp.keep (hT : Tk K H H') (hL : ∀ a xs, SqL K H a xs → SqL K H' a xs) : ∀ (d : PyData) (v : V), Dp K H v d → Dp K H' v d
  | .none, _, h => by cases h; exact .non
  | .bool b, _, h => by cases h; exact .bl b
  | .int i, _, h => by cases h; exact .int i
  | .str x, _, h => by cases h; exact .str x
  | .list ds, _, h => by
    cases h with
    | lst hs ha => exact .lst (hL _ _ hs) (DpAll.keep hT hL ds _ ha)
  | .tuple ds, _, h => by
    cases h with
    | tup hs ha => exact .tup (hT _ _ hs) (DpAll.keep hT hL ds _ ha)
  | .dict _, _, h => by cases h
theorem DpAll.keep (hT : Tk K H H') (hL : ∀ a xs, SqL K H a xs → SqL K H' a xs) : ∀ (ds : List PyData) (vs : List V), DpAll K H vs ds → DpAll K H' vs ds
  | [], _, h => by cases h; exact .nil
  | d :: ds, _, h => by
    cases h with
    | cons h1 h2 => exact .cons (Dp.keep hT hL d _ h1) (DpAll.keep hT hL ds _ h2)
end
theorem Dp.same {d : PyData} {v : V} (h : Dp K H v d) (e : Same H H') : Dp K H' v d := Dp.keep (Same.tk e) (fun _ _ h => e.seq h) d v h
theorem DpAll.same {ds : List PyData} {vs : List V} (h : DpAll K H vs ds) (e : Same H H') : DpAll K H' vs ds := DpAll.keep (Same.tk e) (fun _ _ h => e.seq h) ds vs h
/-- data without lists -/
inductive NoL : PyData → Prop where
  | non : NoL .none
  | bl (b : Bool) : NoL (.bool b)
  | int (i : Int) : NoL (.int i)
  | tup (ds : List PyData) : (∀ d ∈ ds, NoL d) → NoL (.tuple ds)
mutual
theorem Dp.tkeep (hT : Tk K H H') : ∀ (d : PyData) (v : V), NoL d → Dp K H v d → Dp K H' v d
  | .none, _, _, h => by cases h; exact .non
  | .bool b, _, _, h => by cases h; exact .bl b
  | .int i, _, _, h => by cases h; exact .int i
  | .str x, _, _, h => by cases h; exact .str x
  | .list ds, _, n, h => by cases n
  | .tuple ds, _, n, h => by
    cases n with
    | tup _ n =>
      cases h with
      | tup hs ha => exact .tup (hT _ _ hs) (DpAll.tkeep hT ds _ n ha)
  | .dict _, _, _, h => by cases h
theorem DpAll.tkeep (hT : Tk K H H') : ∀ (ds : List PyData) (vs : List V), (∀ d ∈ ds, NoL d) → DpAll K H vs ds → DpAll K H' vs ds
  | [], _, _, h => by cases h; exact .nil
  | d :: ds, _, n, h => by
    cases h with
    | cons h1 h2 => exact .cons (Dp.tkeep hT d _ (n d (List.mem_cons_self ..)) h1) (DpAll.tkeep hT ds _ (fun e he => n e (List.mem_cons_of_mem _ he)) h2)
end
theorem Dp.tk {d : PyData} {v : V} (h : Dp K H v d) (n : NoL d) (hT : Tk K H H') : Dp K H' v d := Dp.tkeep hT d v n h
theorem DpAll.tk {ds : List PyData} {vs : List V} (h : DpAll K H vs ds) (n : ∀ d ∈ ds, NoL d) (hT : Tk K H H') : DpAll K H' vs ds := DpAll.tkeep hT ds vs n h
theorem nol_F (x : Rat) : NoL (dF x) := .tup _ fun d hd => by
  simp only [List.mem_cons, List.not_mem_nil, or_false] at hd
  rcases hd with rfl | rfl <;> exact .int _
theorem nol_P (a : Int × Rat) : NoL (dP a) := .tup _ fun d hd => by
  simp only [List.mem_cons, List.not_mem_nil, or_false] at hd
  rcases hd with rfl | rfl
  · exact .int _
  · exact nol_F _
theorem nol_Ps (r : Row) : ∀ d ∈ r.map dP, NoL d := fun d hd => by
  obtain ⟨a, _, rfl⟩ := List.mem_map.mp hd
  exact nol_P a
theorem nol_R (r : Row) : NoL (dR r) := .tup _ (nol_Ps r)
theorem nol_W (w : List Int) : NoL (dW w) := .tup _ fun d hd => by
  obtain ⟨a, _, rfl⟩ := List.mem_map.mp hd
  exact .int a
theorem nol_Fs (l : List Rat) : ∀ d ∈ l.map dF, NoL d := fun d hd => by
  obtain ⟨a, _, rfl⟩ := List.mem_map.mp hd
  exact nol_F a
theorem nol_Ws (l : List (List Int)) : ∀ d ∈ l.map dW, NoL d := fun d hd => by
  obtain ⟨a, _, rfl⟩ := List.mem_map.mp hd
  exact nol_W a
/-! ### lists of data -/
theorem DpAll.length : ∀ {vs : List V} {ds : List PyData}, DpAll K H vs ds → vs.length = ds.length
  | _, _, .nil => rfl
  | _, _, .cons _ t => by simp [DpAll.length t]
theorem DpAll.get : ∀ {vs : List V} {ds : List PyData} {i : Nat} {d : PyData}, DpAll K H vs ds → ds[i]? = some d → ∃ v, vs[i]? = some v ∧ Dp K H v d
  | _, _, _, _, .nil, e => by simp at e
  | _, _, 0, _, .cons r _, e => by simp at e; subst e; exact ⟨_, rfl, r⟩
  | _, _, i + 1, d, .cons _ t, e => by
    obtain ⟨u, h1, h2⟩ := DpAll.get (i := i) (d := d) t (by simpa using e)
    exact ⟨u, by simpa using h1, h2⟩
theorem DpAll.at : ∀ {vs : List V} {ds : List PyData} {i : Nat} {v : V}, DpAll K H vs ds → vs[i]? = some v → ∃ d, ds[i]? = some d ∧ Dp K H v d
  | _, _, _, _, .nil, e => by simp at e
  | _, _, 0, _, .cons r _, e => by simp at e; subst e; exact ⟨_, rfl, r⟩
  | _, _, i + 1, v, .cons _ t, e => by
    obtain ⟨u, h1, h2⟩ := DpAll.at (i := i) (v := v) t (by simpa using e)
    exact ⟨u, by simpa using h1, h2⟩
theorem DpAll.append : ∀ {vs ws : List V} {ds es : List PyData}, DpAll K H vs ds → DpAll K H ws es → DpAll K H (vs ++ ws) (ds ++ es)
  | _, _, _, _, .nil, s => s
  | _, _, _, _, .cons r t, s => .cons r (DpAll.append t s)
theorem DpAll.take : ∀ {vs : List V} {ds : List PyData} (n : Nat), DpAll K H vs ds → DpAll K H (vs.take n) (ds.take n)
  | _, _, 0, _ => .nil
  | _, _, _ + 1, .nil => .nil
  | _, _, n + 1, .cons r t => .cons r (DpAll.take n t)
theorem DpAll.drop : ∀ {vs : List V} {ds : List PyData} (n : Nat), DpAll K H vs ds → DpAll K H (vs.drop n) (ds.drop n)
  | _, _, 0, r => r
  | _, _, _ + 1, .nil => .nil
  | _, _, n + 1, .cons _ t => DpAll.drop n t
theorem DpAll.snoc {vs : List V} {ds : List PyData} {v : V} {d : PyData} (h : DpAll K H vs ds) (h2 : Dp K H v d) : DpAll K H (vs ++ [v]) (ds ++ [d]) := h.append (.cons h2 .nil)
theorem DpAll.reverse : ∀ {vs : List V} {ds : List PyData}, DpAll K H vs ds → DpAll K H vs.reverse ds.reverse
  | _, _, .nil => .nil
  | _, _, .cons r t => by
    rw [List.reverse_cons, List.reverse_cons]
    exact t.reverse.snoc r
theorem DpAll.ints : ∀ (l : List Int), DpAll K H (l.map V.int) (l.map PyData.int)
  | [] => .nil
  | i :: l => .cons (.int i) (DpAll.ints l)
theorem DpAll.int_inv : ∀ {vs : List V} (l : List Int), DpAll K H vs (l.map PyData.int) → vs = l.map V.int
  | _, [], h => by cases h; rfl
  | _, i :: l, h => by
    cases h with
    | cons a b =>
      cases a
      rw [DpAll.int_inv l b]; rfl
theorem Dp.tupI {v : V} {ds : List PyData} (h : Dp K H v (.tuple ds)) : ∃ a xs, v = .ref a ∧ SqT K H a xs ∧ DpAll K H xs ds := by
  cases h with
  | tup h1 h2 => exact ⟨_, _, rfl, h1, h2⟩
theorem Dp.F {v : V} {x : Rat} (h : Dp K H v (dF x)) : ∃ a, v = .ref a ∧ SqT K H a [.int x.num, .int (x.den : Int)] := by
  obtain ⟨a, xs, rfl, hs, ha⟩ := Dp.tupI h
  cases ha with
  | cons a b =>
    cases a
    cases b with
    | cons a b =>
      cases a; cases b
      exact ⟨_, rfl, hs⟩
theorem Dp.P {v : V} {p : Int × Rat} (h : Dp K H v (dP p)) : ∃ a f, v = .ref a ∧ SqT K H a [.int p.1, f] ∧ Dp K H f (dF p.2) := by
  obtain ⟨a, xs, rfl, hs, ha⟩ := Dp.tupI h
  cases ha with
  | cons a b =>
    cases a
    cases b with
    | cons a b =>
      cases b
      exact ⟨_, _, rfl, hs, a⟩
theorem Dp.R {v : V} {r : Row} (h : Dp K H v (dR r)) : ∃ a xs, v = .ref a ∧ SqT K H a xs ∧ DpAll K H xs (r.map dP) := Dp.tupI h
theorem Dp.W {v : V} {w : List Int} (h : Dp K H v (dW w)) : ∃ a, v = .ref a ∧ SqT K H a (w.map V.int) := by
  obtain ⟨a, xs, rfl, hs, ha⟩ := Dp.tupI h
  rw [DpAll.int_inv w ha] at hs
  exact ⟨a, rfl, hs⟩
theorem Dp.mkF {a : Addr} {x : Rat} (h : SqT K H a [.int x.num, .int (x.den : Int)]) : Dp K H (.ref a) (dF x) := .tup h (.cons (.int _) (.cons (.int _) .nil))
theorem Dp.mkP {a : Addr} {p : Int × Rat} {f : V} (h : SqT K H a [.int p.1, f]) (hf : Dp K H f (dF p.2)) : Dp K H (.ref a) (dP p) := .tup h (.cons (.int _) (.cons hf .nil))
theorem Dp.mkW {a : Addr} {w : List Int} (h : SqT K H a (w.map V.int)) : Dp K H (.ref a) (dW w) := .tup h (DpAll.ints w)
/-- the type of a tuple, a list -/
theorem tyx_T {a : Addr} {xs : List V} (h : SqT K H a xs) : TyX K H (.ref a) (.type "tuple") := by
  rcases h with (h | ⟨o, h⟩) | ⟨o, its, n, h1, h2, _⟩
  · exact .base (.tup h)
  · exact .fTuple h
  · exact .kTuple h1 h2
theorem tyx_L {a : Addr} {xs : List V} (h : SqL K H a xs) : TyX K H (.ref a) (.type "list") := by
  rcases h with (h | ⟨o, h⟩) | ⟨o, its, n, h1, h2, _⟩
  · exact .base (.lst h)
  · exact .base (.frz h)
  · exact .kList h1 h2
end
/-! ## a def and its promise, by the module's name -/
structure Df (K : PySem.W.Frag) (mg : Str → Option Value) (x : Str) (st : Stmt) (ps : List Str) : Prop where
  ex : ∃ f fd, Fun K x x st f fd ∧ mg x = some (.ref f) ∧ Binds K fd ps []
structure Ok' (P : Program) (w : World) (K : PySem.W.Frag) (mg : Str → Option Value) (base : Heap) (x : Str) (ps : List Str) (k : Nat) (sp : Sp) : Prop where
  ex : ∃ f fd, FnOk P w K mg base CX0 k f fd ps sp ∧ mg x = some (.ref f) ∧ PySem.W.keepIn K (.ref f) = true ∧ Binds K fd ps []
theorem Ok'.mono {P : Program} {w : World} {K : PySem.W.Frag} {mg : Str → Option Value} {base : Heap} {x : Str} {ps : List Str} {j k : Nat} {sp : Sp} (G : Ok' P w K mg base x ps j sp) (h : j ≤ k) : Ok' P w K mg base x ps k sp := by
  obtain ⟨f, fd, F, r⟩ := G.ex
  exact ⟨f, fd, F.mono h, r⟩
theorem Df.ok {P : Program} {w : World} {K : PySem.W.Frag} {mg : Str → Option Value} {base : Heap} {x : Str} {st : Stmt} {N ps : List Str} {k : Nat} {sp : Sp} (D : Df K mg x st ps) (S : FnScope N ps (defScope st)) (len : ∀ vs H Q E, sp vs H Q E → vs.length = ps.length)
    (hbody : ∀ (f : Addr) (cdv : Value) (A : Around) (outer : List Env) (s : Shared) (H : Hp) (vs : List V) (Q : VK) (E : XK), Room k (A.deeper (envOfC x (defScope st) s.heap.objs.size f cdv)) → sp vs H Q E →
      ∃ t, PSs (cxOf CX0 P w K mg base N x (defScope st) f cdv A outer s H E).nox (defBody st) t ∧ t { nx := fun _ H' => Q .non H', rt := Q } (start N vs) H) : Ok' P w K mg base x ps (k + 1) sp := by
  obtain ⟨f, fd, F, hm, b⟩ := D.ex
  exact ⟨f, fd, F.ok S len (hbody f), hm, F.kp, b⟩
theorem pe_cf {X : Cx} {x : Str} {ps : List Str} {k : Nat} {sp : Sp} {p pos : Pos} {e : Expr} {es : List Expr} {t : TA} (G : Ok' X.prog X.w X.K X.mg X.base x ps k sp) (hr : Room k X.A) (ha : PA X (e :: es) t) (hg : Gl X x := by rfl)
    (he : starEach (e :: es) X.env = (false, eval e X.env) :: starEach es X.env := by rfl) (hpl : (backTo pos (starEach es X.env)).any (·.1) = false := by rfl) (hdb : (x == ("__debug__" : Str)) = false := by decide) : PE X (.Call (.Name x p) (e :: es) [] pos) (tCall sp [] E0 t) := by
  obtain ⟨f, fd, F, hm, kp, b⟩ := G.ex
  exact pe_call F hr hg hm kp b .nil pass0 ha hdb he hpl
theorem ifF {b : Bool} {A B : Prop} (hb : b = false) (h : B) : if b = true then A else B := by
  subst hb
  exact iteF h
theorem ifT {b : Bool} {A B : Prop} (hb : b = true) (h : A) : if b = true then A else B := by
  subst hb
  exact iteT h
theorem dVne {i j : Int} (h : i ≠ j) : decide (V.int i = V.int j) = false := decide_eq_false fun z => h (V.int.inj z)
theorem dVeq {i j : Int} (h : i = j) : decide (V.int i = V.int j) = true := decide_eq_true (by rw [h])
/-! ## readings grow with what follows -/
def MoE (t : TE) : Prop := ∀ σ H Q Q', (∀ v H1, Q v H1 → Q' v H1) → t σ H Q → t σ H Q'
def MoT (t : TT) : Prop := ∀ σ H Q Q', (∀ v H1, Q v H1 → Q' v H1) → t σ H Q → t σ H Q'
def MoA (t : TA) : Prop := ∀ σ H Q Q', (∀ v H1, Q v H1 → Q' v H1) → t σ H Q → t σ H Q'
def MoR (r : R2) : Prop := ∀ x y H Q Q', (∀ v H1, Q v H1 → Q' v H1) → r x y H Q → r x y H Q'
def MoC (r : List V → Hp → VK → Prop) : Prop := ∀ xs H Q Q', (∀ v H1, Q v H1 → Q' v H1) → r xs H Q → r xs H Q'
theorem mo_var (i : Nat) : MoE (tVar i) := fun _ _ _ _ h ⟨v, e, q⟩ => ⟨v, e, h _ _ q⟩
theorem mo_c (v : V) : MoE (tC v) := fun _ _ _ _ h q => h _ _ q
theorem mo_op {r : R2} {ta tb : TE} (hr : MoR r) (ha : MoE ta) (hb : MoE tb) : MoE (tOp r ta tb) := fun σ H Q Q' h q => ha σ H _ _ (fun x H1 q1 => hb σ H1 _ _ (fun y H2 q2 => hr x y H2 _ _ h q2) q1) q
theorem mo_un {g : Int → V} {ta : TE} (ha : MoE ta) : MoE (tUn (rU g) ta) := fun σ H Q Q' h q => ha σ H _ _ (fun x H1 ⟨i, e, q1⟩ => ⟨i, e, h _ _ q1⟩) q
theorem mo_test {t : TE} (ht : MoE t) : MoT (tTest t) := fun σ H Q Q' h q => ht σ H _ _ (fun x H1 ⟨k, e, q1⟩ => ⟨k, e, h _ _ q1⟩) q
theorem mo_and {t u : TT} (ht : MoT t) (hu : MoT u) : MoT (tAnd t u) := fun σ H Q Q' h q => ht σ H _ _ (fun c H1 q1 => by
  cases c with
  | true => exact hu σ H1 _ _ h q1
  | false => exact h _ _ q1) q
theorem mo_I0 {g : Int → Int → V} : MoR (rI0 g) := fun _ _ _ _ _ h ⟨i, j, e1, e2, q⟩ => ⟨i, j, e1, e2, h _ _ q⟩
theorem mo_I {C : Int → Int → Prop} {g : Int → Int → V} : MoR (rI C g) := fun _ _ _ _ _ h ⟨i, j, e1, e2, c, q⟩ => ⟨i, j, e1, e2, c, h _ _ q⟩
theorem mo_Eq : MoR rEq := fun _ _ _ _ _ h ⟨e, q⟩ => ⟨e, h _ _ q⟩
theorem mo_Ne : MoR rNe := fun _ _ _ _ _ h ⟨e, q⟩ => ⟨e, h _ _ q⟩
theorem mo_IxT {K : PySem.W.Frag} : MoR (rIxT K) := fun _ _ _ _ _ h ⟨p, xs, i, v, e1, e2, s, a, q⟩ => ⟨p, xs, i, v, e1, e2, s, a, h _ _ q⟩
theorem mo_IxL {K : PySem.W.Frag} : MoR (rIxL K) := fun _ _ _ _ _ h ⟨p, xs, i, v, e1, e2, s, a, q⟩ => ⟨p, xs, i, v, e1, e2, s, a, h _ _ q⟩
theorem mo_nil : MoA tNil := fun _ _ _ _ h q => h _ _ q
theorem mo_cons {ta : TE} {tr : TA} (ha : MoE ta) (hr : MoA tr) : MoA (tCons ta tr) := fun σ H Q Q' h q => ha σ H _ _ (fun x H1 q1 => hr σ H1 _ _ (fun xs H2 q2 => h _ _ q2) q1) q
theorem mo_CB {r : List V → Hp → VK → Prop} {t : TA} (hr : MoC r) (ht : MoA t) : MoE (tCB r t) := fun σ H Q Q' h q => ht σ H _ _ (fun xs H1 q1 => hr xs H1 _ _ h q1) q
theorem mo_len {K : PySem.W.Frag} : MoC (fun xs H Q => ∃ p ys, xs = [.ref p] ∧ (SqL K H p ys ∨ SqT K H p ys) ∧ Q (.int (ys.length : Nat)) H) := fun _ _ _ _ h ⟨p, ys, e, s, q⟩ => ⟨p, ys, e, s, h _ _ q⟩
/-! ## rules with the written part told (within a comprehension's block) -/
section
variable {X : Cx} {K : PySem.W.Frag}
theorem ixt (h : X.K = K) : IxR X (rIxT K) := h ▸ ix_tup
theorem ixl (h : X.K = K) : IxR X (rIxL K) := h ▸ ix_list
end
/-! ## heaps -/
theorem Same.put {H H' : Hp} {D : Addr} {o : HO} (e : Same H H') (h : H D = none) : Same H (upd H' D o) := fun b x q => by
  rw [upd_ne (ne_of_none q h)]
  exact e _ _ q
theorem Same.new {H H' : Hp} {D : Addr} {o : HO} (e : Same H H') (h : H' D = none) : Same H (upd H' D o) := e.trans (same_upd h)
theorem tk_updL {K : PySem.W.Frag} {H : Hp} {D : Addr} {ys zs : List V} (h : H D = some (.lst ys)) : Tk K H (upd H D (.lst zs)) := fun a xs q => by
  rcases q with (q | ⟨o, q⟩) | q
  · exact .inl (.inl (by rw [upd_ne (ne_of q h (by intro z; cases z))]; exact q))
  · exact .inl (.inr ⟨o, by rw [upd_ne (ne_of q h (by intro z; cases z))]; exact q⟩)
  · exact .inr q
/-- what a def hands back: some new data, all that was tracked as it was -/
def Ret (K : PySem.W.Frag) (H : Hp) (Q : VK) (d : PyData) : Prop := ∀ H' v, Same H H' → Dp K H' v d → Q v H'
theorem Ret.from {K : PySem.W.Frag} {H H1 : Hp} {Q : VK} {d : PyData} (r : Ret K H Q d) (e : Same H H1) : Ret K H1 Q d := fun H' v s h => r H' v (e.trans s) h
/-- a comprehension that makes new data, one a turn, of a source that stays -/
theorem lc_map {K : PySem.W.Frag} {J : It} {n : Nat} {G : Hp → Prop} {Y : Nat → Hp → V → Hp → Prop} (w : Walk J n G Y) {g : TG} {te : TE} {vs : List Nat} {σ : St} {H1 : Hp} {D : Addr} {Qd : Hp → Prop} (ds : List PyData)
    (hn : ds.length = n) (hz : n ≤ 1000) (hl : ∀ d ∈ ds, NoL d) (hD : H1 D = none) (hG : ∀ H, Same H1 H → G H) (hY : ∀ i H x H', Y i H x H' → Same H H')
    (hs : ∀ i x H H' d (R : V → Hp → Prop), ds[i]? = some d → Same H1 H → Y i H x H' → Ret K H' R d → g x (wipe σ vs) H' fun σ2 H2 => wipe σ2 vs = wipe σ vs ∧ te σ2 H2 R)
    (hgm : ∀ x σ H R R', (∀ σ2 H2, R σ2 H2 → R' σ2 H2) → g x σ H R → g x σ H R')
    (hd : ∀ H ys, Same H1 H → H D = some (.lst ys) → DpAll K H ys ds → Qd H) :
    ∃ W : Nat → Nat → Hp → Prop, (∃ m, W 0 m (upd H1 D (.lst []))) ∧ ∀ i m H, W i m H →
      (J.stop i H ∧ Qd H) ∨ (J.go i H ∧ ∃ Nx : Hp → Prop, (∀ H', Nx H' → ∃ m', m' < m ∧ W (i + 1) m' H') ∧ ∀ x H', J.yld i H x H' → g x (wipe σ vs) H' fun σ2 H2 => wipe σ2 vs = wipe σ vs ∧ tYes σ2 H2 fun b H3 =>
        if b = true then te σ2 H3 fun y H4 => ∃ acc, H4 D = some (.lst acc) ∧ acc.length < sizeLine ∧ Nx (upd H4 D (.lst (acc ++ [y]))) else Nx H3) := by
  refine lc_it w (fun i H => ∃ ys, H D = some (.lst ys) ∧ Same H1 H ∧ DpAll K H ys (ds.take i) ∧ i ≤ n) ⟨[], upd_same, same_upd hD, .nil, Nat.zero_le _⟩ (fun i H _ hp => hG H hp.choose_spec.2.1) ?_ ?_
  · rintro i x H H' hi ⟨ys, h1, h2, h3, h4⟩ hy
    obtain ⟨d, ed⟩ : ∃ d, ds[i]? = some d := ⟨ds[i]'(by omega), by simp⟩
    refine hgm _ _ _ _ _ ?_ (hs i x H H' d (fun y H4 => ∃ acc, H4 D = some (.lst acc) ∧ acc.length < sizeLine ∧ ∃ ys, upd H4 D (.lst (acc ++ [y])) D = some (.lst ys) ∧ Same H1 (upd H4 D (.lst (acc ++ [y]))) ∧ DpAll K (upd H4 D (.lst (acc ++ [y]))) ys (ds.take (i + 1)) ∧ i + 1 ≤ n) ed h2 hy ?_)
    · rintro σ2 H2 ⟨e1, e2⟩
      exact ⟨e1, e2⟩
    · intro H4 y s4 hd4
      have s5 : Same H H4 := (hY _ _ _ _ hy).trans s4
      have hD4 := s5 _ _ h1
      refine ⟨ys, hD4, ?_, ys ++ [y], upd_same, (h2.trans s5).put hD, ?_, hi⟩
      · have := h3.length
        rw [List.length_take] at this
        exact small1000 (by omega)
      · have k := ((h3.same s5).snoc hd4).tk (fun e he => by
          rcases List.mem_append.mp he with he | he
          · exact hl e (List.mem_of_mem_take he)
          · rw [List.mem_singleton] at he; subst he; exact hl _ (List.mem_of_getElem? ed)) (tk_updL (zs := ys ++ [y]) hD4)
        rw [List.take_add_one, ed]
        exact k
  · rintro H ⟨ys, h1, h2, h3, h4⟩
    refine hd H ys h2 h1 ?_
    rw [List.take_of_length_le (by omega)] at h3
    exact h3
theorem gName_mono {i : Nat} : ∀ (x : V) (σ : St) (H : Hp) (R R' : St → Hp → Prop), (∀ σ2 H2, R σ2 H2 → R' σ2 H2) → gName i x σ H R → gName i x σ H R' := fun _ _ _ _ _ h q => h _ _ q
theorem yat_same {xs : List V} : ∀ i H x H', YAt xs i H x H' → Same H H' := fun _ _ _ _ h => by rw [h.1]; exact Same.refl _
theorem yfn_same {f : Nat → V} : ∀ i H x H', YFn f i H x H' → Same H H' := fun _ _ _ _ h => by rw [h.1]; exact Same.refl _
theorem ypair_same {f g : Nat → Option V} : ∀ i H x H', YPair f g i H x H' → Same H H' := fun _ _ _ _ h => by
  obtain ⟨T, x, y, _, h1, rfl, _⟩ := h
  exact same_upd h1
end L2

set_option Elab.async false
set_option linter.all false
set_option maxRecDepth 100000
set_option maxHeartbeats 4000000
namespace L2
open PySem PySem.Spec PyProof.Rows
/-! ## facts of the module -/
structure Tx (K : PySem.W.Frag) (mg : Str → Option Value) : Prop where
  isinstance : mg "isinstance" = none
  list : mg "list" = none
  tuple : mg "tuple" = none
  reversed : mg "reversed" = none
  min : mg "min" = none
  max : mg "max" = none
  range : mg "range" = none
  len : mg "len" = none
  sorted : mg "sorted" = none
  abs : mg "abs" = none
  int : mg "int" = none
  bool : mg "bool" = none
  str : mg "str" = none
  enumerate : mg "enumerate" = none
  zip : mg "zip" = none
  dict : mg "dict" = none
  all : mg "all" = none
  gcd : mg "gcd" = some (.builtin "math.gcd")
  NONEf : ∃ a, mg "NONE_flowrows" = some (.ref a) ∧ ∀ H, SqT K H a [.int 0, .int 1]
  LESS : ∃ a, mg "LESS" = some (.ref a) ∧ ∀ H, SqT K H a [.int (-1), .int 1]
  ONE : ∃ a, mg "ONE" = some (.ref a) ∧ ∀ H, SqT K H a [.int 1, .int 1]
  NONEp : ∃ a, mg "NONE_parting" = some (.ref a) ∧ ∀ H, SqT K H a [.int 0, .int 1]
section
variable {P : Program} {w : World} {K : PySem.W.Frag} {mg : Str → Option Value} {base : Heap}
/-! ## tuple_of -/
inductive NoLn : Nat → PyData → Prop where
  | int (n : Nat) (i : Int) : NoLn n (.int i)
  | tup (n : Nat) (ds : List PyData) : ds.length ≤ 1000 → (∀ d ∈ ds, NoLn n d) → NoLn (n + 1) (.tuple ds)
theorem NoLn.nol : ∀ {n : Nat} {d : PyData}, NoLn n d → NoL d
  | _, _, .int _ i => .int i
  | _, _, .tup _ ds _ h => .tup ds fun d hd => (h d hd).nol
theorem nln_F (x : Rat) : NoLn 1 (dF x) := .tup 0 _ (by simp) fun d hd => by
  simp only [List.mem_cons, List.not_mem_nil, or_false] at hd
  rcases hd with rfl | rfl <;> exact .int _ _
theorem nln_P (a : Int × Rat) : NoLn 2 (dP a) := .tup 1 _ (by simp) fun d hd => by
  simp only [List.mem_cons, List.not_mem_nil, or_false] at hd
  rcases hd with rfl | rfl
  · exact .int _ _
  · exact nln_F _
theorem nln_R {r : Row} (h : r.length ≤ 1000) : NoLn 3 (dR r) := .tup 2 _ (by simpa using h) fun d hd => by
  obtain ⟨a, _, rfl⟩ := List.mem_map.mp hd
  exact nln_P a
theorem nln_W {w : List Int} (h : w.length ≤ 1000) : NoLn 1 (dW w) := .tup 0 _ (by simpa using h) fun d hd => by
  obtain ⟨a, _, rfl⟩ := List.mem_map.mp hd
  exact .int _ _
def spTuple (K : PySem.W.Frag) (n : Nat) : Sp := fun vs H Q _ => ∃ v d, vs = [v] ∧ Dp K H v d ∧ NoLn n d ∧ Ret K H Q d
abbrev sTuple : Stmt := topS 4
theorem scTuple : FnScope ["thing", "part"] ["thing"] (defScope sTuple) := ⟨rfl, rfl, rfl, by decide +kernel, rfl, by decide +kernel, by decide +kernel⟩
theorem isi_LT_int : PySem.W.kitAny K (.type "int") [.type "list", .type "tuple"] = some false :=
  kitAny_cons (b := false) (kit_ty (by decide +kernel)) (fun _ => kitAny_cons (b := false) (kit_ty (by decide +kernel)) (fun _ => kitAny_nil) (fun h => nomatch h)) (fun h => nomatch h)
theorem isi_LT_tup : PySem.W.kitAny K (.type "tuple") [.type "list", .type "tuple"] = some true :=
  kitAny_cons (b := false) (kit_ty (by decide +kernel)) (fun _ => kitAny_cons (b := true) (kit_ty (by decide +kernel)) (fun h => nomatch h) (fun _ => rfl)) (fun h => nomatch h)
theorem ok_tuple (D : Df K mg "tuple_of" sTuple ["thing"]) (T : Tx K mg) : ∀ n : Nat, Ok' P w K mg base "tuple_of" ["thing"] (n + 1) (spTuple K n) := by
  intro n
  induction n with
  | zero =>
    refine D.ok scTuple (fun vs H Q E h => ?_) (fun f cdv A outer s H vs Q E hr h => ?_)
    · obtain ⟨v, d, rfl, _⟩ := h; rfl
    · obtain ⟨v, d, rfl, hd, hn, q⟩ := h
      cases hn with
      | int _ i =>
        refine ⟨_, pss_cons (ps_if (pt_val (pe_callB call_isiT (by rfl) T.isinstance (by decide +kernel) (pa_cons (pv 0) (pa_cons (pe_tup (pa_cons (pe_bltn (v := .ty "list") (by rfl) T.list (by decide +kernel) rfl) (pa_cons (pe_bltn (v := .ty "tuple") (by rfl) T.tuple (by decide +kernel) rfl) pa_nil))) pa_nil))))
          pss_never pss_nil) (pss_one (ps_ret (pv 0))), ?_⟩
        cases hd
        refine ⟨_, rfl, by show 2 ≤ sizeLine; decide, fun p hp => ?_⟩
        refine ⟨.int i, p, [.ty "list", .ty "tuple"], .type "int", [.type "list", .type "tuple"], false, rfl, upd_same, .cons (.ty _) (.cons (.ty _) .nil), .base (.int i), isi_LT_int, ?_⟩
        refine ⟨false, rfl, iteF ?_⟩
        exact ⟨_, rfl, q _ _ (same_upd hp) (.int i)⟩
  | succ n ih =>
    refine D.ok scTuple (fun vs H Q E h => ?_) (fun f cdv A outer s H vs Q E hr h => ?_)
    · obtain ⟨v, d, rfl, _⟩ := h; rfl
    · obtain ⟨v, d, rfl, hd, hn, q⟩ := h
      refine ⟨_, pss_cons (ps_if (pt_val (pe_callB call_isiT (by rfl) T.isinstance (by decide +kernel) (pa_cons (pv 0) (pa_cons (pe_tup (pa_cons (pe_bltn (v := .ty "list") (by rfl) T.list (by decide +kernel) rfl) (pa_cons (pe_bltn (v := .ty "tuple") (by rfl) T.tuple (by decide +kernel) rfl) pa_nil))) pa_nil))))
          (pss_one (ps_ret (pe_callTy call_tuple_of (by rfl) T.tuple (by decide +kernel) (pa_cons (pe_lc (own := [("part", 1)]) (g := gName 1) (tt := tYes) rfl scTuple.nd (pi_tup (pv 0)) (blkOk_by (N := ["thing", "part"]) (sc := defScope sTuple) (by decide +kernel))
            (fun _ _ _ _ _ => pg_name (i := 1) scTuple.nd rfl (Or.inl rfl)) (fun _ _ _ _ _ => pts_nil) (fun _ _ _ _ _ => pe_cf ih hr (pa_cons (pv 1) pa_nil))) pa_nil)))) pss_nil) (pss_one (ps_ret (pv 0))), ?_⟩
      refine ⟨_, rfl, by show 2 ≤ sizeLine; decide, fun p hp => ?_⟩
      have s1 := same_upd (o := .tup [.ty "list", .ty "tuple"]) hp
      cases hn with
      | int _ i =>
        cases hd
        refine ⟨.int i, p, [.ty "list", .ty "tuple"], .type "int", [.type "list", .type "tuple"], false, rfl, upd_same, .cons (.ty _) (.cons (.ty _) .nil), .base (.int i), isi_LT_int, ?_⟩
        refine ⟨false, rfl, iteF ?_⟩
        exact ⟨_, rfl, q _ _ s1 (.int i)⟩
      | tup _ ds hz hds =>
        obtain ⟨a, xs, rfl, hs, ha⟩ := Dp.tupI hd
        refine ⟨.ref a, p, [.ty "list", .ty "tuple"], .type "tuple", [.type "list", .type "tuple"], true, rfl, upd_same, .cons (.ty _) (.cons (.ty _) .nil), tyx_T (Same.tk s1 _ _ hs), isi_LT_tup, ?_⟩
        refine ⟨true, rfl, iteT ?_⟩
        refine ⟨_, rfl, a, rfl, ⟨_, Same.tk s1 _ _ hs⟩, fun D hD => ?_⟩
        have nds : ∀ d ∈ ds, NoL d := fun d hd => (hds d hd).nol
        refine lc_map (K := K) (walk_tup (xs := xs)) ds ha.length.symm (by rw [ha.length]; exact hz) nds hD (fun H' s' => Same.tk (s1.trans s') _ _ hs) yat_same ?_ gName_mono ?_
        · rintro i x H2 H3 d R ed s2 ⟨rfl, hx⟩ hR
          obtain ⟨d', e1, e2⟩ := ha.at hx
          rw [e1] at ed; cases ed
          exact ⟨rfl, x, rfl, x, d, rfl, e2.same (s1.trans s2), hds d (List.mem_of_getElem? e1), hR⟩
        · intro H2 ys s2 h1 h2
          exact ⟨D, ys, rfl, .inl ⟨SqL.of h1, fun l hl => q _ _ ((s1.trans s2).new hl) (.tup (SqT.of upd_same) (h2.same (same_upd hl)))⟩⟩
end
end L2

set_option Elab.async false
set_option linter.all false
set_option maxRecDepth 100000
set_option maxHeartbeats 4000000
namespace L2
open PySem PySem.Spec PyProof.Rows
/-! ## fractions -/
theorem mk_num (t : Int) {n : Nat} (hn : n ≠ 0) : (mkRat t n).num = t / ((Nat.gcd t.natAbs n : Nat) : Int) := by
  rw [← Rat.normalize_eq_mkRat hn, Rat.normalize_eq]
theorem mk_den (t : Int) {n : Nat} (hn : n ≠ 0) : ((mkRat t n).den : Int) = (n : Int) / ((Nat.gcd t.natAbs n : Nat) : Int) := by
  rw [← Rat.normalize_eq_mkRat hn, Rat.normalize_eq]
  exact Int.natCast_ediv _ _
/-- below 2 ^ 1000 -/
def Sz (x : Rat) : Prop := x.num.natAbs < 2 ^ 1000 ∧ x.den < 2 ^ 1000
theorem num_div (x : Rat) : (x.num : Rat) / (x.den : Rat) = x := by rw [← Rat.mkRat_eq_div, Rat.mkRat_self]
theorem mk_over (x : Rat) {k : Nat} (hk : k ≠ 0) : mkRat x.num (x.den * k) = x / (k : Rat) := by
  rw [Rat.mkRat_eq_div]
  have h := num_div x
  have hd : (x.den : Rat) ≠ 0 := by
    have := x.den_nz
    exact_mod_cast this
  have hk' : (k : Rat) ≠ 0 := by exact_mod_cast hk
  rw [Rat.natCast_mul]
  conv => rhs; rw [← h]
  grind
theorem den_pos (x : Rat) : 0 < x.den := Nat.pos_of_ne_zero x.den_nz
theorem den_abs (x : Rat) : ((x.den : Nat) : Int).natAbs = x.den := Int.natAbs_natCast _
theorem two_lt {a b : Nat} (h : a ≤ b) : 2 ^ a ≤ 2 ^ b := Nat.pow_le_pow_right (by decide) h
theorem sz_nd {x y : Rat} (hx : Sz x) (hy : Sz y) : (x.num * (y.den : Int)).natAbs < 2 ^ 2000 := by
  rw [Int.natAbs_mul, den_abs, show (2000 : Nat) = 1000 + 1000 from rfl, Nat.pow_add]
  exact Nat.mul_lt_mul'' hx.1 hy.2
theorem sz_nn {x y : Rat} (hx : Sz x) (hy : Sz y) : (x.num * y.num).natAbs < 2 ^ 2000 := by
  rw [Int.natAbs_mul, show (2000 : Nat) = 1000 + 1000 from rfl, Nat.pow_add]
  exact Nat.mul_lt_mul'' hx.1 hy.1
theorem sz_dd {x y : Rat} (hx : Sz x) (hy : Sz y) : x.den * y.den < 2 ^ 2000 := by
  rw [show (2000 : Nat) = 1000 + 1000 from rfl, Nat.pow_add]
  exact Nat.mul_lt_mul'' hx.2 hy.2
theorem sz_add {a b : Int} (ha : a.natAbs < 2 ^ 2000) (hb : b.natAbs < 2 ^ 2000) : (a + b).natAbs < 2 ^ 4000 := by
  have h1 := Int.natAbs_add_le a b
  have h2 : 2 ^ 2000 + 2 ^ 2000 ≤ 2 ^ 4000 := by
    have : (2 : Nat) ^ 2000 + 2 ^ 2000 = 2 ^ 2001 := by rw [Nat.pow_succ]; omega
    rw [this]
    exact two_lt (by decide)
  omega
theorem sz_big {n : Nat} (h : n < 2 ^ 2000) : n < 2 ^ 4000 := Nat.lt_of_lt_of_le h (two_lt (by decide))
theorem cm_nd {x y : Rat} (hx : Sz x) (hy : Sz y) : CMulW x.num (y.den : Int) := wide_mul (a := 1000) (b := 1000) hx.1 (by rw [den_abs]; exact hy.2) (by decide) (by decide) (by decide)
theorem cm_nn {x y : Rat} (hx : Sz x) (hy : Sz y) : CMulW x.num y.num := wide_mul (a := 1000) (b := 1000) hx.1 hy.1 (by decide) (by decide) (by decide)
theorem cm_dd {x y : Rat} (hx : Sz x) (hy : Sz y) : CMulW (x.den : Int) (y.den : Int) := wide_mul (a := 1000) (b := 1000) (by rw [den_abs]; exact hx.2) (by rw [den_abs]; exact hy.2) (by decide) (by decide) (by decide)
theorem den_ne {x y : Rat} : x.den * y.den ≠ 0 := Nat.mul_ne_zero x.den_nz y.den_nz
section
variable {P : Program} {w : World} {K : PySem.W.Frag} {mg : Str → Option Value} {base : Heap}
def spFraction (K : PySem.W.Frag) : Sp := fun vs H Q _ => ∃ (t : Int) (n : Nat), vs = [.int t, .int (n : Int)] ∧ n ≠ 0 ∧ t.natAbs < 2 ^ 4000 ∧ n < 2 ^ 4000 ∧ Ret K H Q (dF (mkRat t n))
abbrev sFraction : Stmt := topS 6
theorem scFraction : FnScope ["top", "bottom", "common"] ["top", "bottom"] (defScope sFraction) := ⟨rfl, rfl, rfl, by decide +kernel, rfl, by decide +kernel, by decide +kernel⟩
theorem ok_fraction (D : Df K mg "fraction" sFraction ["top", "bottom"]) (T : Tx K mg) : Ok' P w K mg base "fraction" ["top", "bottom"] 1 (spFraction K) := by
  refine D.ok scFraction (fun vs H Q E h => ?_) (fun f cdv A outer s H vs Q E hr h => ?_)
  · obtain ⟨t, n, rfl, _⟩ := h; rfl
  · obtain ⟨t, n, rfl, hn, ht, hb, q⟩ := h
    refine ⟨_, pss_cons (ps_if (pt_cmpR op_eq (pv 1) pe_int (nomark _)) pss_never pss_nil) (pss_cons (ps_set (i := 2) scFraction.nd rfl (.inl rfl) (pe_callBfun cr_gcd (by rfl) T.gcd (pa_cons (pv 0) (pa_cons (pv 1) pa_nil))))
      (pss_cons (ps_if (pt_cmpR op_lt (pv 1) pe_int (nomark _)) (pss_one (ps_set (i := 2) scFraction.nd rfl (.inl rfl) (pe_un un_neg (pv 2)))) pss_nil)
      (pss_one (ps_ret (pe_tup (pa_cons (pe_op op_fdivW (pv 0) (pv 2)) (pa_cons (pe_op op_fdivW (pv 1) (pv 2)) pa_nil))))))), ?_⟩
    have hg : 0 < Nat.gcd t.natAbs n := Nat.gcd_pos_of_pos_right _ (Nat.pos_of_ne_zero hn)
    have hgn : Nat.gcd t.natAbs n ≤ n := Nat.gcd_le_right _ (Nat.pos_of_ne_zero hn)
    refine ⟨_, rfl, rfl, _, rfl, ifF (dVne (by omega)) ?_⟩
    refine ⟨_, rfl, _, rfl, t, n, rfl, ?_⟩
    refine ⟨_, rfl, _, _, rfl, rfl, _, rfl, ifF (decide_eq_false (by omega)) ?_⟩
    have hd : CDivW t ((Nat.gcd t.natAbs n : Nat) : Int) := wide_div (b := 4000) (by omega) (by omega) (by decide) (by decide)
    have hd2 : CDivW (n : Int) ((Nat.gcd t.natAbs n : Nat) : Int) := wide_div (b := 4000) (by omega) (by omega) (by decide) (by decide)
    refine ⟨_, rfl, _, rfl, _, _, rfl, rfl, hd, _, rfl, _, rfl, _, _, rfl, rfl, hd2, by show 2 ≤ sizeLine; decide, fun p hp => ?_⟩
    refine q _ _ (same_upd hp) (Dp.mkF (SqT.of ?_))
    rw [mk_num t hn, mk_den t hn]
    exact upd_same
/-! ## whole, plus, times, over -/
def spWhole (K : PySem.W.Frag) : Sp := fun vs H Q _ => ∃ k : Nat, vs = [.int (k : Int)] ∧ Ret K H Q (dF (k : Rat))
abbrev sWhole : Stmt := topS 7
theorem scWhole : FnScope ["number"] ["number"] (defScope sWhole) := ⟨rfl, rfl, rfl, by decide +kernel, rfl, by decide +kernel, by decide +kernel⟩
theorem ok_whole (D : Df K mg "whole" sWhole ["number"]) : Ok' P w K mg base "whole" ["number"] 1 (spWhole K) := by
  refine D.ok scWhole (fun vs H Q E h => ?_) (fun f cdv A outer s H vs Q E hr h => ?_)
  · obtain ⟨k, rfl, _⟩ := h; rfl
  · obtain ⟨k, rfl, q⟩ := h
    refine ⟨_, pss_one (ps_ret (pe_tup (pa_cons (pv 0) (pa_cons pe_int pa_nil)))), ?_⟩
    exact ⟨_, rfl, by show 2 ≤ sizeLine; decide, fun p hp => q _ _ (same_upd hp) (Dp.mkF (SqT.of upd_same))⟩
def sp2 (K : PySem.W.Frag) (f : Rat → Rat → Rat) : Sp := fun vs H Q _ => ∃ v u x y, vs = [v, u] ∧ Dp K H v (dF x) ∧ Dp K H u (dF y) ∧ Sz x ∧ Sz y ∧ Ret K H Q (dF (f x y))
abbrev sPlus : Stmt := topS 8
theorem scPlus : FnScope ["x", "y"] ["x", "y"] (defScope sPlus) := ⟨rfl, rfl, rfl, by decide +kernel, rfl, by decide +kernel, by decide +kernel⟩
theorem ok_plus (D : Df K mg "plus" sPlus ["x", "y"]) (GF : Ok' P w K mg base "fraction" ["top", "bottom"] 1 (spFraction K)) : Ok' P w K mg base "plus" ["x", "y"] 2 (sp2 K fun x y => x + y) := by
  refine D.ok scPlus (fun vs H Q E h => ?_) (fun f cdv A outer s H vs Q E hr h => ?_)
  · obtain ⟨v, u, x, y, rfl, _⟩ := h; rfl
  · obtain ⟨v, u, x, y, rfl, hv, hu, hx, hy, q⟩ := h
    obtain ⟨a, rfl, ha⟩ := hv.F
    obtain ⟨b, rfl, hb⟩ := hu.F
    refine ⟨_, pss_one (ps_ret (pe_cf GF hr (pa_cons (pe_op op_add (pe_op op_mulW (pe_ix ix_tup (pv 0) pe_int (fun _ _ => rfl)) (pe_ix ix_tup (pv 1) pe_int (fun _ _ => rfl))) (pe_op op_mulW (pe_ix ix_tup (pv 1) pe_int (fun _ _ => rfl)) (pe_ix ix_tup (pv 0) pe_int (fun _ _ => rfl))))
      (pa_cons (pe_op op_mulW (pe_ix ix_tup (pv 0) pe_int (fun _ _ => rfl)) (pe_ix ix_tup (pv 1) pe_int (fun _ _ => rfl))) pa_nil)))), ?_⟩
    refine ⟨_, rfl, a, _, _, _, rfl, rfl, ha, rfl, _, rfl, b, _, _, _, rfl, rfl, hb, rfl, _, _, rfl, rfl, cm_nd hx hy, ?_⟩
    refine ⟨_, rfl, b, _, _, _, rfl, rfl, hb, rfl, _, rfl, a, _, _, _, rfl, rfl, ha, rfl, _, _, rfl, rfl, cm_nd hy hx, _, _, rfl, rfl, ?_⟩
    refine ⟨_, rfl, a, _, _, _, rfl, rfl, ha, rfl, _, rfl, b, _, _, _, rfl, rfl, hb, rfl, _, _, rfl, rfl, cm_dd hx hy, ?_⟩
    refine ⟨_, x.den * y.den, rfl, den_ne, sz_add (sz_nd hx hy) (sz_nd hy hx), sz_big (sz_dd hx hy), ?_⟩
    rw [← Rat.add_def']
    exact q
abbrev sTimes : Stmt := topS 9
theorem scTimes : FnScope ["x", "y"] ["x", "y"] (defScope sTimes) := ⟨rfl, rfl, rfl, by decide +kernel, rfl, by decide +kernel, by decide +kernel⟩
theorem ok_times (D : Df K mg "times" sTimes ["x", "y"]) (GF : Ok' P w K mg base "fraction" ["top", "bottom"] 1 (spFraction K)) : Ok' P w K mg base "times" ["x", "y"] 2 (sp2 K fun x y => x * y) := by
  refine D.ok scTimes (fun vs H Q E h => ?_) (fun f cdv A outer s H vs Q E hr h => ?_)
  · obtain ⟨v, u, x, y, rfl, _⟩ := h; rfl
  · obtain ⟨v, u, x, y, rfl, hv, hu, hx, hy, q⟩ := h
    obtain ⟨a, rfl, ha⟩ := hv.F
    obtain ⟨b, rfl, hb⟩ := hu.F
    refine ⟨_, pss_one (ps_ret (pe_cf GF hr (pa_cons (pe_op op_mulW (pe_ix ix_tup (pv 0) pe_int (fun _ _ => rfl)) (pe_ix ix_tup (pv 1) pe_int (fun _ _ => rfl)))
      (pa_cons (pe_op op_mulW (pe_ix ix_tup (pv 0) pe_int (fun _ _ => rfl)) (pe_ix ix_tup (pv 1) pe_int (fun _ _ => rfl))) pa_nil)))), ?_⟩
    refine ⟨_, rfl, a, _, _, _, rfl, rfl, ha, rfl, _, rfl, b, _, _, _, rfl, rfl, hb, rfl, _, _, rfl, rfl, cm_nn hx hy, ?_⟩
    refine ⟨_, rfl, a, _, _, _, rfl, rfl, ha, rfl, _, rfl, b, _, _, _, rfl, rfl, hb, rfl, _, _, rfl, rfl, cm_dd hx hy, ?_⟩
    refine ⟨_, x.den * y.den, rfl, den_ne, sz_big (sz_nn hx hy), sz_big (sz_dd hx hy), ?_⟩
    rw [← Rat.mul_def']
    exact q
/-- x / k, k a whole number -/
def spOver (K : PySem.W.Frag) : Sp := fun vs H Q _ => ∃ v u x, ∃ k : Nat, vs = [v, u] ∧ Dp K H v (dF x) ∧ Dp K H u (dF (k : Rat)) ∧ Sz x ∧ k ≠ 0 ∧ k ≤ 1000 ∧ Ret K H Q (dF (x / (k : Rat)))
theorem sz_nat {k : Nat} (h : k ≤ 1000) : Sz (k : Rat) := by
  have h2 : 1001 ≤ 2 ^ 1000 := Nat.le_trans (show 1001 ≤ 2 ^ 10 by decide) (two_lt (by decide))
  refine ⟨?_, ?_⟩
  · show (((k : Nat) : Int)).natAbs < 2 ^ 1000
    rw [Int.natAbs_natCast]; omega
  · show 1 < 2 ^ 1000
    omega
abbrev sOver : Stmt := topS 10
theorem scOver : FnScope ["x", "y"] ["x", "y"] (defScope sOver) := ⟨rfl, rfl, rfl, by decide +kernel, rfl, by decide +kernel, by decide +kernel⟩
theorem ok_over (D : Df K mg "over" sOver ["x", "y"]) (GF : Ok' P w K mg base "fraction" ["top", "bottom"] 1 (spFraction K)) : Ok' P w K mg base "over" ["x", "y"] 2 (spOver K) := by
  refine D.ok scOver (fun vs H Q E h => ?_) (fun f cdv A outer s H vs Q E hr h => ?_)
  · obtain ⟨v, u, x, y, rfl, _⟩ := h; rfl
  · obtain ⟨v, u, x, k, rfl, hv, hu, hx, hk, hk2, q⟩ := h
    obtain ⟨a, rfl, ha⟩ := hv.F
    obtain ⟨b, rfl, hb⟩ := hu.F
    have hy := sz_nat hk2
    refine ⟨_, pss_one (ps_ret (pe_cf GF hr (pa_cons (pe_op op_mulW (pe_ix ix_tup (pv 0) pe_int (fun _ _ => rfl)) (pe_ix ix_tup (pv 1) pe_int (fun _ _ => rfl)))
      (pa_cons (pe_op op_mulW (pe_ix ix_tup (pv 0) pe_int (fun _ _ => rfl)) (pe_ix ix_tup (pv 1) pe_int (fun _ _ => rfl))) pa_nil)))), ?_⟩
    refine ⟨_, rfl, a, _, _, _, rfl, rfl, ha, rfl, _, rfl, b, _, _, _, rfl, rfl, hb, rfl, _, _, rfl, rfl, cm_nd hx hy, ?_⟩
    refine ⟨_, rfl, a, _, _, _, rfl, rfl, ha, rfl, _, rfl, b, _, _, _, rfl, rfl, hb, rfl, _, _, rfl, rfl, ?_, ?_⟩
    · exact wide_mul (a := 1000) (b := 1000) (by rw [den_abs]; exact hx.2) hy.1 (by decide) (by decide) (by decide)
    · refine ⟨_, x.den * k, rfl, Nat.mul_ne_zero x.den_nz hk, sz_big (sz_nd hx hy), sz_big ?_, ?_⟩
      · have := hy.1
        rw [show (((k : Nat) : Rat)).num = ((k : Nat) : Int) from rfl, Int.natAbs_natCast] at this
        rw [show (2000 : Nat) = 1000 + 1000 from rfl, Nat.pow_add]
        exact Nat.mul_lt_mul'' hx.2 this
      · have e : x.num * (((k : Nat) : Rat).den : Int) = x.num := by
          show x.num * 1 = x.num
          omega
        rw [e, mk_over x hk]
        exact q
end
end L2

set_option Elab.async false
set_option linter.all false
set_option maxRecDepth 100000
set_option maxHeartbeats 4000000
namespace L2
open PySem PySem.Spec PyProof.Rows
section
variable {P : Program} {w : World} {K : PySem.W.Frag} {mg : Str → Option Value} {base : Heap}
/-! ## the law's own fractions -/
abbrev sLow : Stmt := topS 36
theorem scLow : FnScope ["_law_top_so", "_law_down_so", "_law_near_here", "_law_far"] ["_law_top_so", "_law_down_so"] (defScope sLow) := ⟨rfl, rfl, rfl, by decide +kernel, rfl, by decide +kernel, by decide +kernel⟩
theorem abs_if (t : Int) : (if t < 0 then -t else t) = (t.natAbs : Int) := by split <;> omega
theorem ok_low (D : Df K mg "_law_low" sLow ["_law_top_so", "_law_down_so"]) (T : Tx K mg) : Ok' P w K mg base "_law_low" ["_law_top_so", "_law_down_so"] 1 (spFraction K) := by
  refine D.ok scLow (fun vs H Q E h => ?_) (fun f cdv A outer s H vs Q E hr h => ?_)
  · obtain ⟨t, n, rfl, _⟩ := h; rfl
  · obtain ⟨t, n, rfl, hn, ht, hb, q⟩ := h
    refine ⟨_, pss_cons (ps_par (i := 2) (j := 3) (by rfl) scLow.nd rfl rfl (by decide) rfl rfl (pa_cons (pe_callB call_abs (by rfl) T.abs (by decide +kernel) (pa_cons (pv 0) pa_nil)) (pa_cons (pe_callB call_abs (by rfl) T.abs (by decide +kernel) (pa_cons (pv 1) pa_nil)) pa_nil)) (by rfl))
      (pss_cons (ps_while PassesOwn.never (pt_cmpR op_gt (pv 3) pe_int (nomark _)) (pss_one (ps_par (i := 2) (j := 3) (by rfl) scLow.nd rfl rfl (by decide) rfl rfl (pa_cons (pv 3) (pa_cons (pe_op op_mod (pe_callTy call_int1 (by rfl) T.int (by decide +kernel) (pa_cons (pv 2) pa_nil)) (pv 3)) pa_nil)) (by rfl))))
      (pss_cons (ps_if (pt_cmpR op_lt (pv 1) pe_int (nomark _)) (pss_one (ps_set (i := 2) scLow.nd rfl (.inl rfl) (pe_op op_sub pe_int (pv 2)))) pss_nil)
      (pss_one (ps_ret (pe_tup (pa_cons (pe_op op_fdivW (pv 0) (pv 2)) (pa_cons (pe_op op_fdivW (pv 1) (pv 2)) pa_nil))))))), ?_⟩
    refine ⟨_, rfl, t, rfl, _, rfl, (n : Int), rfl, _, _, rfl, ?_⟩
    rw [abs_if, abs_if, Int.natAbs_natCast]
    have hg : 0 < Nat.gcd t.natAbs n := Nat.gcd_pos_of_pos_right _ (Nat.pos_of_ne_zero hn)
    have hgn : Nat.gcd t.natAbs n ≤ n := Nat.gcd_le_right _ (Nat.pos_of_ne_zero hn)
    refine while_by (fun σ H' => H' = H ∧ ∃ a b : Nat, σ = [some (.int t), some (.int (n : Int)), some (.int (a : Int)), some (.int (b : Int))] ∧ Nat.gcd a b = Nat.gcd t.natAbs n)
      (fun σ _ => match σ with | [_, _, _, some (.int b)] => b.toNat | _ => 0) ⟨rfl, _, _, rfl, rfl⟩ ?_ ?_
    · rintro σ H' ⟨rfl, a, b, rfl, hab⟩
      refine ⟨_, rfl, _, _, rfl, rfl, _, rfl, ?_⟩
      by_cases hb0 : 0 < b
      · refine ifT (decide_eq_true (by omega)) ?_
        refine ⟨_, rfl, _, rfl, .inl ⟨_, rfl, ?_⟩⟩
        refine ⟨_, rfl, _, _, rfl, rfl, (by show (0 : Int) < (b : Int); omega), _, _, rfl, ?_⟩
        refine ⟨⟨rfl, b, a % b, ?_, ?_⟩, ?_⟩
        · rfl
        · rw [Nat.gcd_comm b, ← Nat.gcd_rec, Nat.gcd_comm, hab]
        · show ((a : Int) % (b : Int)).toNat < ((b : Int)).toNat
          have := Nat.mod_lt a hb0
          omega
      · refine ifF (decide_eq_false (by omega)) ?_
        obtain rfl : b = 0 := by omega
        rw [Nat.gcd_zero_right] at hab
        subst hab
        refine ⟨_, rfl, _, _, rfl, rfl, _, rfl, ifF (decide_eq_false (by omega)) ?_⟩
        have hd : CDivW t ((Nat.gcd t.natAbs n : Nat) : Int) := wide_div (b := 4000) (by omega) (by omega) (by decide) (by decide)
        have hd2 : CDivW (n : Int) ((Nat.gcd t.natAbs n : Nat) : Int) := wide_div (b := 4000) (by omega) (by omega) (by decide) (by decide)
        refine ⟨_, rfl, _, rfl, _, _, rfl, rfl, hd, _, rfl, _, rfl, _, _, rfl, rfl, hd2, by show 2 ≤ sizeLine; decide, fun p hp => ?_⟩
        refine q _ _ (same_upd hp) (Dp.mkF (SqT.of ?_))
        rw [mk_num t hn, mk_den t hn]
        exact upd_same
    · rintro σ H' R R' hR ⟨v, e, i, j, h1, h2, k, h3, h4⟩
      exact ⟨v, e, i, j, h1, h2, k, h3, hR _ _ h4⟩
abbrev sAdd : Stmt := topS 37
theorem scAdd : FnScope ["_law_own", "_law_far"] ["_law_own", "_law_far"] (defScope sAdd) := ⟨rfl, rfl, rfl, by decide +kernel, rfl, by decide +kernel, by decide +kernel⟩
theorem ok_add (D : Df K mg "_law_add" sAdd ["_law_own", "_law_far"]) (GF : Ok' P w K mg base "_law_low" ["_law_top_so", "_law_down_so"] 1 (spFraction K)) : Ok' P w K mg base "_law_add" ["_law_own", "_law_far"] 2 (sp2 K fun x y => x + y) := by
  refine D.ok scAdd (fun vs H Q E h => ?_) (fun f cdv A outer s H vs Q E hr h => ?_)
  · obtain ⟨v, u, x, y, rfl, _⟩ := h; rfl
  · obtain ⟨v, u, x, y, rfl, hv, hu, hx, hy, q⟩ := h
    obtain ⟨a, rfl, ha⟩ := hv.F
    obtain ⟨b, rfl, hb⟩ := hu.F
    refine ⟨_, pss_one (ps_ret (pe_cf GF hr (pa_cons (pe_op op_add (pe_op op_mulW (pe_ix ix_tup (pv 0) pe_int (fun _ _ => rfl)) (pe_ix ix_tup (pv 1) pe_int (fun _ _ => rfl))) (pe_op op_mulW (pe_ix ix_tup (pv 1) pe_int (fun _ _ => rfl)) (pe_ix ix_tup (pv 0) pe_int (fun _ _ => rfl))))
      (pa_cons (pe_op op_mulW (pe_ix ix_tup (pv 0) pe_int (fun _ _ => rfl)) (pe_ix ix_tup (pv 1) pe_int (fun _ _ => rfl))) pa_nil)))), ?_⟩
    refine ⟨_, rfl, a, _, _, _, rfl, rfl, ha, rfl, _, rfl, b, _, _, _, rfl, rfl, hb, rfl, _, _, rfl, rfl, cm_nd hx hy, ?_⟩
    refine ⟨_, rfl, b, _, _, _, rfl, rfl, hb, rfl, _, rfl, a, _, _, _, rfl, rfl, ha, rfl, _, _, rfl, rfl, cm_nd hy hx, _, _, rfl, rfl, ?_⟩
    refine ⟨_, rfl, a, _, _, _, rfl, rfl, ha, rfl, _, rfl, b, _, _, _, rfl, rfl, hb, rfl, _, _, rfl, rfl, cm_dd hx hy, ?_⟩
    refine ⟨_, x.den * y.den, rfl, den_ne, sz_add (sz_nd hx hy) (sz_nd hy hx), sz_big (sz_dd hx hy), ?_⟩
    rw [← Rat.add_def']
    exact q
abbrev sMul : Stmt := topS 38
theorem scMul : FnScope ["_law_own", "_law_far"] ["_law_own", "_law_far"] (defScope sMul) := ⟨rfl, rfl, rfl, by decide +kernel, rfl, by decide +kernel, by decide +kernel⟩
theorem ok_mul (D : Df K mg "_law_mul" sMul ["_law_own", "_law_far"]) (GF : Ok' P w K mg base "_law_low" ["_law_top_so", "_law_down_so"] 1 (spFraction K)) : Ok' P w K mg base "_law_mul" ["_law_own", "_law_far"] 2 (sp2 K fun x y => x * y) := by
  refine D.ok scMul (fun vs H Q E h => ?_) (fun f cdv A outer s H vs Q E hr h => ?_)
  · obtain ⟨v, u, x, y, rfl, _⟩ := h; rfl
  · obtain ⟨v, u, x, y, rfl, hv, hu, hx, hy, q⟩ := h
    obtain ⟨a, rfl, ha⟩ := hv.F
    obtain ⟨b, rfl, hb⟩ := hu.F
    refine ⟨_, pss_one (ps_ret (pe_cf GF hr (pa_cons (pe_op op_mulW (pe_ix ix_tup (pv 0) pe_int (fun _ _ => rfl)) (pe_ix ix_tup (pv 1) pe_int (fun _ _ => rfl)))
      (pa_cons (pe_op op_mulW (pe_ix ix_tup (pv 0) pe_int (fun _ _ => rfl)) (pe_ix ix_tup (pv 1) pe_int (fun _ _ => rfl))) pa_nil)))), ?_⟩
    refine ⟨_, rfl, a, _, _, _, rfl, rfl, ha, rfl, _, rfl, b, _, _, _, rfl, rfl, hb, rfl, _, _, rfl, rfl, cm_nn hx hy, ?_⟩
    refine ⟨_, rfl, a, _, _, _, rfl, rfl, ha, rfl, _, rfl, b, _, _, _, rfl, rfl, hb, rfl, _, _, rfl, rfl, cm_dd hx hy, ?_⟩
    refine ⟨_, x.den * y.den, rfl, den_ne, sz_big (sz_nn hx hy), sz_big (sz_dd hx hy), ?_⟩
    rw [← Rat.mul_def']
    exact q
end
end L2

set_option Elab.async false
set_option linter.all false
set_option maxRecDepth 100000
set_option maxHeartbeats 4000000
namespace L2
open PySem PySem.Spec PyProof.Rows
/-! ## equality of data -/
theorem eqv_F (x y : Rat) : PyData.eqv (dF x) (dF y) = decide (x = y) := by
  simp only [dF, PyData.eqv, PyData.eqvAll, Bool.and_true]
  by_cases h : x = y
  · subst h; simp
  · rw [decide_eq_false h]
    by_cases h1 : x.num = y.num
    · have h2 : ¬ (x.den : Int) = (y.den : Int) := fun z => h (Rat.ext h1 (by omega))
      rw [beq_eq_false_iff_ne.mpr h2, Bool.and_false]
    · rw [beq_eq_false_iff_ne.mpr h1, Bool.false_and]
theorem eqv_P (a b : Int × Rat) : PyData.eqv (dP a) (dP b) = decide (a = b) := by
  simp only [dP, PyData.eqv, PyData.eqvAll, Bool.and_true, eqv_F]
  obtain ⟨p, x⟩ := a
  obtain ⟨q, y⟩ := b
  by_cases h1 : p = q <;> by_cases h2 : x = y <;> simp [h1, h2]
theorem eqv_Ps : ∀ r s : Row, PyData.eqvAll (r.map dP) (s.map dP) = decide (r = s)
  | [], [] => rfl
  | [], _ :: _ => by simp [PyData.eqvAll]
  | _ :: _, [] => by simp [PyData.eqvAll]
  | a :: r, b :: s => by
    simp only [List.map_cons, PyData.eqvAll, eqv_P, eqv_Ps r s]
    by_cases h1 : a = b <;> by_cases h2 : r = s <;> simp [h1, h2]
theorem eqv_R (r s : Row) : PyData.eqv (dR r) (dR s) = decide (r = s) := by
  simp only [dR, PyData.eqv]
  exact eqv_Ps r s
theorem eqv_Fs : ∀ r s : List Rat, PyData.eqvAll (r.map dF) (s.map dF) = decide (r = s)
  | [], [] => rfl
  | [], _ :: _ => by simp [PyData.eqvAll]
  | _ :: _, [] => by simp [PyData.eqvAll]
  | a :: r, b :: s => by
    simp only [List.map_cons, PyData.eqvAll, eqv_F, eqv_Fs r s]
    by_cases h1 : a = b <;> by_cases h2 : r = s <;> simp [h1, h2]
theorem lay_all {l : List PyData} (h : ∀ d ∈ l, PyData.canLay0 d = true) : PyData.canLayAll0 l = true := by
  induction l with
  | nil => simp [PyData.canLayAll0]
  | cons d l ih =>
    simp only [PyData.canLayAll0, Bool.and_eq_true]
    exact ⟨h d (List.mem_cons_self ..), ih fun e he => h e (List.mem_cons_of_mem _ he)⟩
theorem depth_all {l : List PyData} {n : Nat} (h : ∀ d ∈ l, PyData.depth d ≤ n) : PyData.depthAll l ≤ n := by
  induction l with
  | nil => simp [PyData.depthAll]
  | cons d l ih =>
    simp only [PyData.depthAll]
    have h1 := h d (List.mem_cons_self ..)
    have h2 := ih fun e he => h e (List.mem_cons_of_mem _ he)
    omega
/-- plain data of a told depth -/
def Pl (n : Nat) (d : PyData) : Prop := PyData.canLay0 d = true ∧ PyData.depth d ≤ n
theorem Pl.int (i : Int) : Pl 0 (.int i) := ⟨by simp [PyData.canLay0], by simp [PyData.depth]⟩
theorem Pl.mono {m n : Nat} {d : PyData} (h : Pl m d) (hm : m ≤ n) : Pl n d := ⟨h.1, Nat.le_trans h.2 hm⟩
theorem Pl.tup {n : Nat} {l : List PyData} (h : ∀ d ∈ l, Pl n d) : Pl (n + 1) (.tuple l) :=
  ⟨by simp only [PyData.canLay0]; exact lay_all fun d hd => (h d hd).1, by simp only [PyData.depth]; have := depth_all fun d hd => (h d hd).2; omega⟩
theorem Pl.lst {n : Nat} {l : List PyData} (h : ∀ d ∈ l, Pl n d) : Pl (n + 1) (.list l) :=
  ⟨by simp only [PyData.canLay0]; exact lay_all fun d hd => (h d hd).1, by simp only [PyData.depth]; have := depth_all fun d hd => (h d hd).2; omega⟩
theorem Pl.sh {n : Nat} {d : PyData} (h : Pl n d) (hn : n ≤ 64) : SeqAt.shaped d = true := by
  unfold SeqAt.shaped
  rw [h.1, decide_eq_true (Nat.le_trans h.2 hn)]
  rfl
theorem pl_F (x : Rat) : Pl 1 (dF x) := .tup fun d hd => by
  simp only [List.mem_cons, List.not_mem_nil, or_false] at hd
  rcases hd with rfl | rfl <;> exact .int _
theorem pl_P (a : Int × Rat) : Pl 2 (dP a) := .tup fun d hd => by
  simp only [List.mem_cons, List.not_mem_nil, or_false] at hd
  rcases hd with rfl | rfl
  · exact (Pl.int _).mono (by decide)
  · exact pl_F _
theorem pl_R (r : Row) : Pl 3 (dR r) := .tup fun d hd => by
  obtain ⟨a, _, rfl⟩ := List.mem_map.mp hd
  exact pl_P a
theorem pl_W (w : List Int) : Pl 1 (dW w) := .tup fun d hd => by
  obtain ⟨a, _, rfl⟩ := List.mem_map.mp hd
  exact .int a
/-! ## walks -/
theorem walk_revT {K : PySem.W.Frag} {a : Addr} {xs : List V} : Walk (RT.ItvT K a xs.length) xs.length (fun H => SqT K H a xs) (YAt xs.reverse) := by
  refine ⟨fun i _ hi q => ⟨hi, xs, xs[xs.length - 1 - i]'(by omega), q, by simp [show xs.length - 1 - i < xs.length by omega]⟩, fun _ _ => Nat.le_refl _, fun i H x H' hi q y => ⟨y.1, ?_⟩⟩
  rw [List.getElem?_reverse hi]
  exact y.2 xs q
theorem gP_mono {K : PySem.W.Frag} {i j : Nat} : ∀ (x : V) (σ : St) (H : Hp) (R R' : St → Hp → Prop), (∀ σ2 H2, R σ2 H2 → R' σ2 H2) →
    gTup K 2 (gCons (gName i) (gCons (gName j) gNil)) x σ H R → gTup K 2 (gCons (gName i) (gCons (gName j) gNil)) x σ H R' := by
  rintro x σ H R R' hR ⟨a, xs, h1, h2, h3, v, r, h4, v', r', h5, h6, h7⟩
  exact ⟨a, xs, h1, h2, h3, v, r, h4, v', r', h5, h6, hR _ _ h7⟩
section
variable {X : Cx}
/-- x in (): whatever x is -/
theorem op_in_nil : OpR X (compareOp .In) (fun _ y H Q => ∃ p, y = .ref p ∧ SqT X.K H p [] ∧ Q (.bl false) H) := by
  intro pins s σ H x y v u Q I rx ry h
  obtain ⟨p, rfl, hq, q⟩ := h
  cases ry
  obtain ⟨its, r, pl, hz⟩ := I.tuple hq
  cases r
  refine SeqAt.in_tupleAt (fun _ => false) pl (fun w hw => by simp at hw) ⟨.bl false, H, I, ?_, q⟩
  show Value.bool _ = Value.bool false
  simp
end
section
variable {P : Program} {w : World} {K : PySem.W.Frag} {mg : Str → Option Value} {base : Heap}
/-! ## row_turned, row_joined -/
def SzR (r : Row) : Prop := r.length ≤ 1000 ∧ ∀ a ∈ r, Sz a.2
theorem sz_m1 : Sz (-1) := ⟨Nat.lt_of_lt_of_le (show 1 < 2 ^ 1 by decide) (two_lt (by decide)), Nat.lt_of_lt_of_le (show 1 < 2 ^ 1 by decide) (two_lt (by decide))⟩
def spTurned (K : PySem.W.Frag) : Sp := fun vs H Q _ => ∃ v r, vs = [v] ∧ Dp K H v (dR r) ∧ SzR r ∧ Ret K H Q (dR (Lk.inv r))
abbrev sTurned : Stmt := topS 14
theorem scTurned : FnScope ["row", "part", "much"] ["row"] (defScope sTurned) := ⟨rfl, rfl, rfl, by decide +kernel, rfl, by decide +kernel, by decide +kernel⟩
theorem inv_map (r : Row) : (Lk.inv r).map dP = (r.reverse.map fun a => dP (a.1, -a.2)) := by
  unfold Lk.inv
  rw [← List.map_reverse, List.map_map]; rfl
theorem ok_turned (D : Df K mg "row_turned" sTurned ["row"]) (T : Tx K mg) (GT : Ok' P w K mg base "tuple_of" ["thing"] 4 (spTuple K 3)) (GM : Ok' P w K mg base "times" ["x", "y"] 4 (sp2 K fun x y => x * y)) : Ok' P w K mg base "row_turned" ["row"] 5 (spTurned K) := by
  refine D.ok scTurned (fun vs H Q E h => ?_) (fun f cdv A outer s H vs Q E hr h => ?_)
  · obtain ⟨v, r, rfl, _⟩ := h; rfl
  · obtain ⟨v, r, rfl, hv, hz, q⟩ := h
    obtain ⟨aL, mL, hL⟩ := T.LESS
    refine ⟨_, pss_one (ps_ret (pe_callTy call_tuple_of (by rfl) T.tuple (by decide +kernel) (pa_cons (pe_lc (own := [("part", 1), ("much", 2)]) (g := gTup K 2 (gCons (gName 1) (gCons (gName 2) gNil))) (tt := tYes) rfl scTurned.nd
        (RT.pi_revA (by rfl) T.reversed (pe_cf GT hr (pa_cons (pv 0) pa_nil))) (blkOk_by (N := ["row", "part", "much"]) (sc := defScope sTurned) (by decide +kernel))
        (fun _ _ _ _ _ => pg_tup rfl (pgs_cons (pg_name (i := 1) scTurned.nd rfl (Or.inl rfl)) (pgs_cons (pg_name (i := 2) scTurned.nd rfl (Or.inl rfl)) pgs_nil))) (fun _ _ _ _ _ => pts_nil)
        (fun _ _ _ _ _ => pe_tup (pa_cons (pv 1) (pa_cons (pe_cf GM hr (pa_cons (pv 2) (pa_cons (pe_glob (v := .ref aL) (by rfl) mL rfl) pa_nil))) pa_nil)))) pa_nil))), ?_⟩
    refine ⟨v, rfl, v, dR r, rfl, hv, nln_R hz.1, fun H1 u s1 hu => ?_⟩
    obtain ⟨a, xs, rfl, hs, ha⟩ := hu.R
    refine ⟨a, xs, rfl, .inr ⟨hs, fun D hD => ?_⟩⟩
    have hlen : xs.length = r.length := by rw [ha.length, List.length_map]
    refine lc_map (K := K) (walk_revT (xs := xs)) ((Lk.inv r).map dP) (by rw [List.length_map, Lk.inv_len]; exact hlen.symm) (by rw [hlen]; exact hz.1) (nol_Ps _) hD (fun H' s' => Same.tk s' _ _ hs) yat_same ?_ gP_mono ?_
    · rintro i x H2 H3 d R ed s2 ⟨rfl, hx⟩ hR
      obtain ⟨d', e1, e2⟩ := ha.reverse.at hx
      rw [inv_map] at ed
      rw [← List.map_reverse, List.getElem?_map] at e1
      rw [List.getElem?_map] at ed
      cases hi : r.reverse[i]? with
      | none => rw [hi] at e1; cases e1
      | some p =>
        rw [hi] at e1 ed
        cases e1; cases ed
        obtain ⟨b, fv, rfl, hb, hf⟩ := (e2.same s2).P
        refine ⟨b, _, rfl, hb, rfl, _, _, rfl, _, _, rfl, rfl, rfl, ?_⟩
        have hp := hz.2 p (List.mem_reverse.mp (List.mem_of_getElem? hi))
        refine ⟨_, rfl, _, rfl, fv, .ref aL, p.2, -1, rfl, hf, Dp.mkF (x := -1) (hL H3), hp, sz_m1, fun H4 y s4 hy => ?_⟩
        refine ⟨by show 2 ≤ sizeLine; decide, fun t ht => ?_⟩
        have e : p.2 * -1 = -p.2 := by grind
        have hy : Dp K H4 y (dF (p.2 * -1)) := hy
        rw [e] at hy
        exact hR _ _ (s4.new ht) (Dp.mkP (p := (p.1, -p.2)) (SqT.of upd_same) (hy.same (same_upd ht)))
    · intro H2 ys s2 h1 h2
      exact ⟨D, ys, rfl, .inl ⟨SqL.of h1, fun l hl => q _ _ ((s1.trans s2).new hl) (.tup (SqT.of upd_same) (h2.same (same_upd hl)))⟩⟩
def spJoined (K : PySem.W.Frag) : Sp := fun vs H Q _ => ∃ v u r t, vs = [v, u] ∧ Dp K H v (dR r) ∧ Dp K H u (dR t) ∧ r.length ≤ 1000 ∧ t.length ≤ 1000 ∧ Ret K H Q (dR (r ++ t))
abbrev sJoined : Stmt := topS 15
theorem scJoined : FnScope ["row", "other"] ["row", "other"] (defScope sJoined) := ⟨rfl, rfl, rfl, by decide +kernel, rfl, by decide +kernel, by decide +kernel⟩
/-- t + u of data -/
theorem cat_data {K : PySem.W.Frag} {H : Hp} {Q : VK} {v u : V} {ds es : List PyData} (hv : Dp K H v (.tuple ds)) (hu : Dp K H u (.tuple es)) (hz : ds.length + es.length ≤ 3000) (q : Ret K H Q (.tuple (ds ++ es))) : rCatA K v u H Q := by
  obtain ⟨a, xs, rfl, hs, ha⟩ := hv.tupI
  obtain ⟨b, ys, rfl, ht, hb⟩ := hu.tupI
  refine ⟨a, b, xs, ys, rfl, rfl, hs, ht, ?_, fun e => ?_, fun _ e => ?_, fun _ _ p hp => ?_⟩
  · rw [ha.length, hb.length]
    exact Nat.le_trans hz (by decide)
  · subst e
    cases ha
    exact q _ _ (Same.refl _) (.tup ht hb)
  · subst e
    cases hb
    exact q _ _ (Same.refl _) (.tup hs (by rw [List.append_nil]; exact ha))
  · exact q _ _ (same_upd hp) (.tup (SqT.of upd_same) ((ha.append hb).same (same_upd hp)))
theorem ok_joined (D : Df K mg "row_joined" sJoined ["row", "other"]) (GT : Ok' P w K mg base "tuple_of" ["thing"] 4 (spTuple K 3)) : Ok' P w K mg base "row_joined" ["row", "other"] 5 (spJoined K) := by
  refine D.ok scJoined (fun vs H Q E h => ?_) (fun f cdv A outer s H vs Q E hr h => ?_)
  · obtain ⟨v, u, r, t, rfl, _⟩ := h; rfl
  · obtain ⟨v, u, r, t, rfl, hv, hu, hr1, ht1, q⟩ := h
    refine ⟨_, pss_one (ps_ret (pe_op op_catA (pe_cf GT hr (pa_cons (pv 0) pa_nil)) (pe_cf GT hr (pa_cons (pv 1) pa_nil)))), ?_⟩
    refine ⟨v, rfl, v, dR r, rfl, hv, nln_R hr1, fun H1 v1 s1 h1 => ?_⟩
    refine ⟨u, rfl, u, dR t, rfl, hu.same s1, nln_R ht1, fun H2 u1 s2 h2 => ?_⟩
    refine cat_data (h1.same s2) h2 (by simp; omega) ?_
    rw [← List.map_append]
    exact q.from (s1.trans s2)
end
end L2

set_option Elab.async false
set_option linter.all false
set_option maxRecDepth 100000
set_option maxHeartbeats 4000000
namespace L2
open PySem PySem.Spec PyProof.Rows
section
variable {P : Program} {w : World} {K : PySem.W.Frag} {mg : Str → Option Value} {base : Heap}
/-! ## go_together, place_to_meet, shortened -/
def spGo (K : PySem.W.Frag) : Sp := fun vs H Q _ => ∃ a b m, vs = [.int a, .int b, .ref m] ∧ SqT K H m [] ∧ ∀ H', Same H H' → Q (.bl false) H'
abbrev sGo : Stmt := topS 16
theorem scGo : FnScope ["one", "two", "meets"] ["one", "two", "meets"] (defScope sGo) := ⟨rfl, rfl, rfl, by decide +kernel, rfl, by decide +kernel, by decide +kernel⟩
theorem ok_go (D : Df K mg "go_together" sGo ["one", "two", "meets"]) (T : Tx K mg) : Ok' P w K mg base "go_together" ["one", "two", "meets"] 1 (spGo K) := by
  refine D.ok scGo (fun vs H Q E h => ?_) (fun f cdv A outer s H vs Q E hr h => ?_)
  · obtain ⟨a, b, m, rfl, _⟩ := h; rfl
  · obtain ⟨a, b, m, rfl, hm, q⟩ := h
    refine ⟨_, pss_one (ps_ret (pe_cmpR op_in_nil (pe_tup (pa_cons (pe_callB (call_min2 rfl) (by rfl) T.min (by decide +kernel) (pa_cons (pv 0) (pa_cons (pv 1) pa_nil))) (pa_cons (pe_callB (call_max2 rfl) (by rfl) T.max (by decide +kernel) (pa_cons (pv 0) (pa_cons (pv 1) pa_nil))) pa_nil))) (pv 2) (by rfl))), ?_⟩
    refine ⟨_, rfl, _, rfl, _, _, rfl, _, rfl, _, rfl, _, _, rfl, by show 2 ≤ sizeLine; decide, fun p hp => ?_⟩
    exact ⟨_, rfl, m, rfl, Same.tk (same_upd hp) _ _ hm, q _ (same_upd hp)⟩
/-- the last place, if it is of this part -/
def placeV (t : Row) (p : Int) : V := match t with
  | [] => .non
  | a :: t' => if a.1 = p then .int (t'.length : Nat) else .non
def spPlace (K : PySem.W.Frag) : Sp := fun vs H Q _ => ∃ l p m xs t, vs = [.ref l, .int p, .ref m] ∧ H l = some (.lst xs) ∧ DpAll K H xs (t.reverse.map dP) ∧ t.length ≤ 1000 ∧ SqT K H m [] ∧ ∀ H', Same H H' → Q (placeV t p) H'
abbrev sPlace : Stmt := topS 17
theorem scPlace : FnScope ["pairs", "part", "meets", "place"] ["pairs", "part", "meets"] (defScope sPlace) := ⟨rfl, rfl, rfl, by decide +kernel, rfl, by decide +kernel, by decide +kernel⟩
theorem ok_place (D : Df K mg "place_to_meet" sPlace ["pairs", "part", "meets"]) (T : Tx K mg) (GG : Ok' P w K mg base "go_together" ["one", "two", "meets"] 1 (spGo K)) : Ok' P w K mg base "place_to_meet" ["pairs", "part", "meets"] 2 (spPlace K) := by
  refine D.ok scPlace (fun vs H Q E h => ?_) (fun f cdv A outer s H vs Q E hr h => ?_)
  · obtain ⟨l, p, m, xs, t, rfl, _⟩ := h; rfl
  · obtain ⟨l, p, m, xs, t, rfl, hl, hx, ht, hm, q⟩ := h
    refine ⟨_, pss_cons (ps_for PassesOwn.never rfl (pi_revR (by rfl) T.reversed (prg_1 (by rfl) T.range (pe_callB call_len_seq (by rfl) T.len PySem.boot_len (pa_cons (pv 0) pa_nil)))) (pg_name (i := 3) scPlace.nd rfl (Or.inl rfl))
      (pss_cons (ps_if (pt_cmpR op_eq (pe_ix ix_tup (pe_ix ix_list (pv 0) (pv 3) (fun _ _ => rfl)) pe_int (fun _ _ => rfl)) (pv 1) (nomark _)) (pss_one (ps_ret (pv 3))) pss_nil)
      (pss_one (ps_if (pt_not (pt_val (pe_cf GG hr (pa_cons (pe_ix ix_tup (pe_ix ix_list (pv 0) (pv 3) (fun _ _ => rfl)) pe_int (fun _ _ => rfl)) (pa_cons (pv 1) (pa_cons (pv 2) pa_nil)))))) (pss_one (ps_ret pe_non)) pss_nil))))
      (pss_one (ps_ret pe_non)), ?_⟩
    have hlen : xs.length = t.length := by rw [hx.length]; simp
    refine ⟨.ref l, rfl, l, xs, rfl, .inl (SqL.of hl), _, rfl, by decide, by decide, by omega, by omega, ?_⟩
    refine for_it walk_rangeC (fun i σ H' => i = 0 ∧ H' = H ∧ σ = [some (.ref l), some (.int p), some (.ref m), none]) ⟨rfl, rfl, rfl⟩ (fun _ _ _ _ _ => True.intro) ?_ ?_
    · rintro i x σ H1 H2 hi ⟨rfl, rfl, rfl⟩ ⟨rfl, hx2⟩
      have hx2 : x = .int (0 + ((((xs.length : Nat) : Int) - 0).toNat : Nat) - 1 + ((0 : Nat) : Int) * -1) := hx2
      cases t with
      | nil => simp at hlen; subst hlen; simp at hi
      | cons a t =>
        have hn : xs.length = t.length + 1 := by simpa using hlen
        have ex : x = .int ((t.length : Nat) : Int) := by rw [hx2, hn]; congr 1; omega
        subst ex
        have hget : ((a :: t).reverse.map dP)[t.length]? = some (dP a) := by simp
        obtain ⟨v, hv1, hv2⟩ := hx.get hget
        obtain ⟨b, fv, rfl, hb, hf⟩ := hv2.P
        have hq : placeV (a :: t) p = if a.1 = p then .int (t.length : Nat) else .non := rfl
        refine ⟨_, rfl, _, rfl, l, xs, _, _, rfl, rfl, SqL.of hl, atI_nat hv1, b, _, _, _, rfl, rfl, hb, rfl, _, rfl, rfl, _, rfl, ?_⟩
        by_cases hp : a.1 = p
        · refine ifT (dVeq hp) ?_
          rw [if_pos hp] at hq
          exact ⟨_, rfl, by rw [← hq]; exact q _ (Same.refl _)⟩
        · refine ifF (dVne hp) ?_
          rw [if_neg hp] at hq
          refine ⟨_, rfl, _, rfl, l, xs, _, _, rfl, rfl, SqL.of hl, atI_nat hv1, b, _, _, _, rfl, rfl, hb, rfl, _, rfl, _, rfl, ?_⟩
          refine ⟨_, _, m, rfl, hm, fun H' s' => ⟨_, rfl, ?_⟩⟩
          refine ifT (by rfl) ?_
          show Q .non H'
          rw [← hq]
          exact q _ s'
    · rintro σ H1 ⟨h1, rfl, rfl⟩
      have h0 : t = [] := List.length_eq_zero_iff.mp (by omega)
      subst h0
      exact q _ (Same.refl _)
theorem pu_len (t : Row) (a : Int × Rat) : (Lk.pu t a).length ≤ t.length + 1 := by
  obtain ⟨p, x⟩ := a
  cases t with
  | nil => rw [Lk.pu_nil]; split <;> simp
  | cons b t =>
    obtain ⟨q, y⟩ := b
    simp only [Lk.pu]
    split <;> split <;> simp only [List.length_cons] <;> omega
theorem fold_len : ∀ (r t : Row), (r.foldl Lk.pu t).length ≤ t.length + r.length
  | [], t => by simp
  | a :: r, t => by
    have h1 := fold_len r (Lk.pu t a)
    have h2 := pu_len t a
    simp only [List.foldl_cons, List.length_cons]
    omega
/-- the pile behind i pairs -/
def pil (r : Row) (i : Nat) : Row := (r.take i).foldl Lk.pu []
theorem pil_succ {r : Row} {i : Nat} {a : Int × Rat} (h : r[i]? = some a) : pil r (i + 1) = Lk.pu (pil r i) a := by
  unfold pil
  rw [List.take_add_one, h, List.foldl_append]; rfl
theorem pil_len (r : Row) (i : Nat) : (pil r i).length ≤ r.length := by
  have := fold_len (r.take i) []
  unfold pil
  simp at this
  omega
def SzF (r : Row) : Prop := r.length ≤ 1000 ∧ (∀ a ∈ r, Sz a.2) ∧ ∀ i, ∀ a ∈ pil r i, Sz a.2
theorem pil_all (r : Row) : pil r r.length = Lk.nfr r := by unfold pil Lk.nfr; rw [List.take_length]
theorem erase_last {l : List V} {k : Nat} (h : l.length = k + 1) : l.eraseIdx k = l.take k := by
  rw [List.eraseIdx_eq_take_drop_succ, List.drop_of_length_le (by omega), List.append_nil]
theorem pu_new {t : Row} {p : Int} {x : Rat} (h : placeV t p = .non) : Lk.pu t (p, x) = if x = 0 then t else (p, x) :: t := by
  cases t with
  | nil => exact Lk.pu_nil p x
  | cons a t =>
    obtain ⟨q, y⟩ := a
    by_cases e : q = p
    · exact absurd ((if_pos e).symm.trans h : V.int (t.length : Nat) = V.non) (by intro z; cases z)
    · exact Lk.pu_miss e y x t
def spShort (K : PySem.W.Frag) : Sp := fun vs H Q _ => ∃ v m r, vs = [v, .ref m] ∧ Dp K H v (dR r) ∧ SqT K H m [] ∧ SzF r ∧ ∀ H' l xs, Same H H' → H' l = some (.lst xs) → DpAll K H' xs ((Lk.nf r).map dP) → Q (.ref l) H'
abbrev sShort : Stmt := topS 18
theorem scShort : FnScope ["row", "meets", "pairs", "part", "much", "place", "sum_of"] ["row", "meets"] (defScope sShort) := ⟨rfl, rfl, rfl, by decide +kernel, rfl, by decide +kernel, by decide +kernel⟩
theorem ok_short (D : Df K mg "shortened" sShort ["row", "meets"]) (T : Tx K mg) (GT : Ok' P w K mg base "tuple_of" ["thing"] 4 (spTuple K 3)) (GP : Ok' P w K mg base "place_to_meet" ["pairs", "part", "meets"] 4 (spPlace K)) (GA : Ok' P w K mg base "plus" ["x", "y"] 4 (sp2 K fun x y => x + y)) : Ok' P w K mg base "shortened" ["row", "meets"] 5 (spShort K) := by
  refine D.ok scShort (fun vs H Q E h => ?_) (fun f cdv A outer s H vs Q E hr h => ?_)
  · obtain ⟨v, m, r, rfl, _⟩ := h; rfl
  · obtain ⟨v, m, r, rfl, hv, hm, hz, q⟩ := h
    obtain ⟨aN, mN, hN⟩ := T.NONEf
    refine ⟨_, pss_cons (ps_set (i := 2) scShort.nd rfl (.inl rfl) (pe_lst pa_nil)) (pss_cons (ps_for PassesOwn.never rfl (pi_tup (pe_cf GT hr (pa_cons (pv 0) pa_nil))) (pg_tup rfl (pgs_cons (pg_name (i := 3) scShort.nd rfl (Or.inl rfl)) (pgs_cons (pg_name (i := 4) scShort.nd rfl (Or.inl rfl)) pgs_nil)))
      (pss_cons (ps_set (i := 5) scShort.nd rfl (.inl rfl) (pe_cf GP hr (pa_cons (pv 2) (pa_cons (pv 3) (pa_cons (pv 1) pa_nil)))))
      (pss_cons (ps_set (i := 6) scShort.nd rfl (.inl rfl) (pe_ifExp (pt_cmp (pc_isN (pv 5)) rfl) (pv 4) (pe_cf GA hr (pa_cons (pe_ix ix_tup (pe_ix ix_list (pv 2) (pv 5) (fun _ _ => rfl)) pe_int (fun _ _ => rfl)) (pa_cons (pv 4) pa_nil)))))
      (pss_cons (ps_if (pt_cmp (pc_notN (pv 5)) rfl) (pss_one (ps_expr (pe_bm PySem.F.plainAttrs_list PySem.F.slot_list_pop PySem.F.type_list_pop mt_popAt (pv 2) (pa_cons (pv 5) pa_nil)))) pss_nil)
      (pss_one (ps_if (pt_cmpR (op_neD hr.units) (pv 6) (pe_glob (v := .ref aN) (by rfl) mN rfl) (nomark _)) (pss_one (ps_expr (pe_bm PySem.F.plainAttrs_list PySem.F.slot_list_append PySem.F.type_list_append mt_append (pv 2) (pa_cons (pe_tup (pa_cons (pv 3) (pa_cons (pv 6) pa_nil))) pa_nil)))) pss_nil))))))
      (pss_one (ps_ret (pv 2)))), ?_⟩
    refine ⟨Nat.zero_le _, fun l hl => ?_⟩
    refine ⟨v, rfl, v, dR r, rfl, hv.same (same_upd hl), nln_R hz.1, fun H1 u s1 hu => ?_⟩
    have s0 : Same H H1 := (same_upd (o := .lst []) hl).trans s1
    obtain ⟨a, ys, rfl, hs, ha⟩ := hu.R
    have hlen : ys.length = r.length := by rw [ha.length, List.length_map]
    refine ⟨a, rfl, ⟨_, hs⟩, ?_⟩
    refine for_it (walk_tup (K := K) (xs := ys)) (fun i σ H' => ∃ xs c3 c4 c5 c6, σ = [some v, some (.ref m), some (.ref l), c3, c4, c5, c6] ∧ H' l = some (.lst xs) ∧ Same H H' ∧ Tk K H1 H' ∧ DpAll K H' xs ((pil r i).reverse.map dP))
      ⟨[], none, none, none, none, rfl, s1 _ _ upd_same, s0, Tk.refl, .nil⟩ (fun i σ H' _ hp => by obtain ⟨_, _, _, _, _, _, _, _, h3, _⟩ := hp; exact h3 _ _ hs) ?_ ?_
    · rintro i x σ H2 H3 hi ⟨xs, c3, c4, c5, c6, rfl, h1, h2, h3, h4⟩ ⟨rfl, hx⟩
      obtain ⟨d, e1, e2⟩ := ha.at hx
      rw [List.getElem?_map] at e1
      cases er : r[i]? with
      | none => rw [er] at e1; cases e1
      | some pr =>
        rw [er] at e1; cases e1
        obtain ⟨p, x⟩ := pr
        have hpx : Sz x := hz.2.1 (p, x) (List.mem_of_getElem? er)
        have hps := pil_succ er
        generalize ht : pil r i = t at h4 hps
        have hzt : ∀ b ∈ t, Sz b.2 := fun b hb => hz.2.2 i b (by rw [ht]; exact hb)
        have htl : t.length ≤ 1000 := by have := pil_len r i; rw [ht] at this; have := hz.1; omega
        obtain ⟨b, fv, rfl, hb, hf⟩ := (e2.tk (nol_P _) h3).P
        -- what stands behind the pile's change
        have fin : ∀ (z : Rat) (t1 : Row), Lk.pu t (p, x) = (if z = 0 then t1 else (p, z) :: t1) → pil r (i + 1) = (if z = 0 then t1 else (p, z) :: t1) := fun z t1 e => by rw [hps, e]
        refine ⟨b, _, rfl, hb, rfl, _, _, rfl, _, _, rfl, rfl, ?_⟩
        refine ⟨_, rfl, _, rfl, _, rfl, l, p, m, xs, t, rfl, h1, h4, htl, Same.tk h2 _ _ hm, fun H4 s4 => ?_⟩
        have k1 := s4 _ _ h1
        have k2 := h2.trans s4
        have k3 := h3.trans (Same.tk s4)
        have k4 := h4.same s4
        have kf := hf.same s4
        by_cases hpl : placeV t p = .non
        · have hpu := pu_new (x := x) hpl
          rw [hpl]
          refine ⟨_, rfl, _, rfl, ifT (by rfl) ?_⟩
          refine ⟨_, rfl, _, rfl, _, rfl, ifF (by rfl) ?_⟩
          refine ⟨_, rfl, dF x, dF 0, kf, Dp.mkF (x := 0) (hN _), (pl_F _).sh (by decide), (pl_F _).sh (by decide), _, rfl, ?_⟩
          rw [eqv_F]
          by_cases hx0 : x = 0
          · refine ifF (by simp [hx0]) ?_
            refine ⟨xs, _, _, _, _, rfl, k1, k2, k3, ?_⟩
            rw [fin x t hpu, if_pos hx0]; exact k4
          · refine ifT (by simp [hx0]) ?_
            refine ⟨_, rfl, .inl ⟨rfl, _, SqL.of k1⟩, _, rfl, _, rfl, by show 2 ≤ sizeLine; decide, fun T1 hT => ?_⟩
            have k5 : upd H4 T1 (.tup [.int p, fv]) l = some (.lst xs) := by rw [upd_ne (ne_of_none k1 hT)]; exact k1
            have hxl : xs.length = t.length := by rw [k4.length]; simp
            refine ⟨l, xs, _, rfl, rfl, k5, small1000 (by omega), ?_⟩
            refine ⟨_, _, _, _, _, rfl, upd_same, (k2.new hT).put hl, (k3.trans (Same.tk (same_upd hT))).trans (tk_updL k5), ?_⟩
            rw [fin x t hpu, if_neg hx0, List.reverse_cons, List.map_append]
            exact ((k4.same (same_upd hT)).snoc (Dp.mkP (p := (p, x)) (SqT.of upd_same) (kf.same (same_upd hT)))).tk (by rw [← List.map_singleton, ← List.map_append]; exact nol_Ps _) (tk_updL k5)
        · cases t with
          | nil => exact absurd rfl hpl
          | cons a0 t =>
            obtain ⟨p0, y⟩ := a0
            have hp0 : p0 = p := by
              by_cases e : p0 = p
              · exact e
              · exact absurd (if_neg e) hpl
            subst hp0
            have hpv : placeV ((p0, y) :: t) p0 = .int (t.length : Nat) := if_pos rfl
            rw [hpv]
            have hy : Sz y := hzt (p0, y) (List.mem_cons_self ..)
            have hget : (((p0, y) :: t).reverse.map dP)[t.length]? = some (dP (p0, y)) := by simp
            obtain ⟨v1, hv1, hv2⟩ := k4.get hget
            obtain ⟨b1, f1, rfl, hb1, hf1⟩ := hv2.P
            have hxl : xs.length = t.length + 1 := by rw [k4.length]; simp
            refine ⟨_, rfl, _, rfl, ifF (by rfl) ?_⟩
            refine ⟨_, rfl, _, rfl, l, xs, _, _, rfl, rfl, SqL.of k1, atI_nat hv1, b1, _, _, _, rfl, rfl, hb1, rfl, _, rfl, f1, fv, y, x, rfl, hf1, kf, hy, hpx, fun H5 sv s5 hsv => ?_⟩
            have m1 := s5 _ _ k1
            have hix : ixN xs.length ((t.length : Nat) : Int) = some t.length := by
              unfold ixN
              rw [if_pos (by omega), if_pos (by omega), Int.toNat_natCast]
            refine ⟨_, rfl, _, rfl, ifT (by rfl) ?_⟩
            refine ⟨_, rfl, .inl ⟨rfl, _, SqL.of m1⟩, _, rfl, l, xs, _, t.length, _, rfl, rfl, m1, by omega, by have := htl; simp at this; omega, (ixN_seq hix).1, hv1, ?_⟩
            rw [erase_last hxl]
            have m2 := (k2.trans s5).put (o := .lst (xs.take t.length)) hl
            have m3 := (k3.trans (Same.tk s5)).trans (tk_updL (zs := xs.take t.length) m1)
            have m4 : DpAll K (upd H5 l (.lst (xs.take t.length))) (xs.take t.length) (t.reverse.map dP) := by
              have := ((k4.same s5).take t.length).tk (fun d hd => nol_Ps _ d (List.mem_of_mem_take hd)) (tk_updL (zs := xs.take t.length) m1)
              rw [← List.map_take, List.reverse_cons, List.take_left' (by simp)] at this
              exact this
            have msv := hsv.tk (nol_F _) (tk_updL (zs := xs.take t.length) m1)
            have hpu := Lk.pu_hit p0 y x t
            refine ⟨_, rfl, dF (y + x), dF 0, msv, Dp.mkF (x := 0) (hN _), (pl_F _).sh (by decide), (pl_F _).sh (by decide), _, rfl, ?_⟩
            rw [eqv_F]
            by_cases hx0 : y + x = 0
            · refine ifF (by simp [hx0]) ?_
              refine ⟨_, _, _, _, _, rfl, upd_same, m2, m3, ?_⟩
              rw [fin (y + x) t hpu, if_pos hx0]; exact m4
            · refine ifT (by simp [hx0]) ?_
              refine ⟨_, rfl, .inl ⟨rfl, _, SqL.of upd_same⟩, _, rfl, _, rfl, by show 2 ≤ sizeLine; decide, fun T1 hT => ?_⟩
              have k5 : upd (upd H5 l (.lst (xs.take t.length))) T1 (.tup [.int p0, sv]) l = some (.lst (xs.take t.length)) := by rw [upd_ne (ne_of_none upd_same hT)]; exact upd_same
              refine ⟨l, _, _, rfl, rfl, k5, small1000 (by rw [List.length_take]; simp at htl; omega), ?_⟩
              refine ⟨_, _, _, _, _, rfl, upd_same, (m2.new hT).put hl, (m3.trans (Same.tk (same_upd hT))).trans (tk_updL k5), ?_⟩
              rw [fin (y + x) t hpu, if_neg hx0, List.reverse_cons, List.map_append]
              exact ((m4.same (same_upd hT)).snoc (Dp.mkP (p := (p0, y + x)) (SqT.of upd_same) (msv.same (same_upd hT)))).tk (by rw [← List.map_singleton, ← List.map_append]; exact nol_Ps _) (tk_updL k5)
    · rintro σ H2 ⟨xs, c3, c4, c5, c6, rfl, h1, h2, h3, h4⟩
      rw [hlen, pil_all] at h4
      exact ⟨_, rfl, q _ _ _ h2 h1 h4⟩
end
end L2

set_option Elab.async false
set_option linter.all false
set_option maxRecDepth 100000
set_option maxHeartbeats 4000000
namespace L2
open PySem PySem.Spec PyProof.Rows HT
/-! ## t[::-1] of a tuple -/
theorem fm_congr {α β : Type} {f g : α → Option β} : ∀ {l : List α}, (∀ x ∈ l, f x = g x) → l.filterMap f = l.filterMap g
  | [], _ => rfl
  | a :: l, h => by
    rw [List.filterMap_cons, List.filterMap_cons, h a (List.mem_cons_self ..), fm_congr fun x hx => h x (List.mem_cons_of_mem _ hx)]
section
variable {prog : Program} {w : World} {A : Around} {E : Value → Shared → Prop} {s : Shared}
theorem sliceApplied_rev {sl : Addr} {vl vu vs : Value} {n : Nat} {Q : Int × Int × Nat → Shared → Prop} (hs : s.heap.IsSliceOf sl vl vu vs) (pl : IsPart vl none) (pu : IsPart vu none) (ps : IsPart vs (some (-1)))
    (h : Q ((n : Int) - 1, -1, n) s) : wpAny (model prog w) A (Builtin.Slice.sliceApplied (.ref sl) (pure (n : Int))) Q E s := by
  obtain ⟨os, hos, hcs, hds⟩ := id hs
  unfold Builtin.Slice.sliceApplied Builtin.Slice.sliceFields
  refine wpAny_bind (wpAny_bind (wpAny_field hos hds (x := vl) rfl (wpAny_bind (wpAny_field hos hds (x := vu) rfl (wpAny_bind (wpAny_field hos hds (x := vs) rfl (wpAny_pure ?_)))))))
  refine wpAny_bind (slicePart_ ps ?_)
  show wpAny _ _ (if ((-1 : Int) == 0) = true then _ else _) _ _ s
  rw [if_neg (by decide)]
  refine wpAny_bind (slicePart_ pl (wpAny_bind (slicePart_ pu (wpAny_bind (wpAny_pure ?_)))))
  show wpAny _ _ (pure ((n : Int) - 1, (-1 : Int), Builtin.Slice.slicePlaces ((n : Int) - 1) (-1) (-1))) _ _ s
  have e : Builtin.Slice.slicePlaces ((n : Int) - 1) (-1) (-1) = n := by
    unfold Builtin.Slice.slicePlaces
    rw [if_neg (by decide)]
    by_cases h0 : (n : Int) - 1 > -1
    · rw [if_pos h0]
      show (((n : Int) - 1 - -1 - 1) / 1 + 1).toNat = n
      rw [Int.ediv_one]
      omega
    · rw [if_neg h0]
      show (0 : Int).toNat = n
      omega
  rw [e]
  exact wpAny_pure h
theorem pick_rev (xs : Array Value) : ((List.range xs.size).filterMap fun (m : Nat) => xs[((xs.size : Int) - 1 + (m : Int) * -1).toNat]?).toArray = xs.toList.reverse.toArray := by
  have e : ((List.range xs.size).filterMap fun (m : Nat) => xs[((xs.size : Int) - 1 + (m : Int) * -1).toNat]?) = ((List.range xs.size).map fun k => xs.size - 1 - k).filterMap (xs[·]?) := by
    rw [List.filterMap_map]
    refine fm_congr fun m hm => ?_
    have := List.mem_range.mp hm
    show xs[((xs.size : Int) - 1 + (m : Int) * -1).toNat]? = xs[xs.size - 1 - m]?
    congr 1
    omega
  rw [e, PySem.W.krv_range, List.filterMap_reverse, PySem.W.krv_all]
theorem getItem_tuple_rev {t sl : Addr} {items : Array Value} {vl vu vs : Value} {Q : Value → Shared → Prop} (ht : IsTup s.heap t items) (hs : s.heap.IsSliceOf sl vl vu vs) (pl : IsPart vl none) (pu : IsPart vu none) (ps : IsPart vs (some (-1)))
    (h : Q (.ref s.heap.objs.size) { s with heap := s.heap.push { cls := .type "tuple", data := .seq items.toList.reverse.toArray } })
    (hsz : items.size ≤ sizeLine) : wpAny (model prog w) A (getItem (.ref t) (.ref sl)) Q E s := by
  have htake : sizeOk (.seq items.toList.reverse.toArray) := by
    show items.toList.reverse.toArray.size ≤ sizeLine
    rw [List.size_toArray, List.length_reverse, Array.length_toList]
    exact hsz
  obtain ⟨os, hos, hcs, hds⟩ := id hs
  have hTs : s.TypeIs (.ref sl) "slice" := ⟨os, hos, hcs⟩
  unfold getItem
  try with_reducible refine wpAny_holding ?_
  first | refine wpAny_bind (wpAny_pure ?_) | skip
  refine wpAny_bind (wpAny_sequenceKey ht.typeIs (by decide) ?_)
  refine wpAny_bind (wpAny_callSpecial?_slot (name := Str.ofString "__getitem__") ht.typeIs PyProof.Rows.slot_tuple_getitem
    (wpAny_call_entry PyProof.Rows.slot_tuple_getitem ht.typeIs entry_tuple_getitem ?_ (args_tuple_getitem _ _)))
  show wpAny _ _ (Builtin.Tuple.tupleItemsOf (.ref t) >>= _) _ _ s
  refine wpAny_bind (tupleItemsOf_ ht ?_)
  refine wpAny_bind (wpAny_typeOf hTs ?_)
  rw [if_pos (by decide)]
  refine wpAny_bind (sliceApplied_rev hs pl pu ps ?_)
  have hno : ¬ ((((items.size : Int) - 1) == 0 && (-1 : Int) == 1 && items.size == items.size) = true) := by
    intro q
    rw [Bool.and_eq_true, Bool.and_eq_true] at q
    have q2 : (-1 : Int) = 1 := eq_of_beq q.1.2
    omega
  show wpAny _ _ (if (((items.size : Int) - 1) == 0 && (-1 : Int) == 1 && items.size == items.size) = true then _ else _) _ _ s
  rw [if_neg hno, pick_rev]
  first
    | exact wpAny_bind (m := Builtin.Tuple.tupleExact _) (wpAny_newObj_type (wpAny_pure ⟨_, rfl, wpAny_pure h⟩) htake)
    | exact wpAny_bind (m := Builtin.Tuple.tupleExact _) (wpAny_newObj_type (wpAny_bind (wpAny_pure (wpAny_pure ⟨_, rfl, wpAny_pure h⟩))) htake)
    | exact wpAny_bind (wpAny_bind (m := Builtin.Tuple.tupleExact _) (wpAny_newObj_type (wpAny_pure (wpAny_pure ⟨_, rfl, wpAny_pure h⟩)) htake))
    | exact wpAny_bind (wpAny_bind (m := Builtin.Tuple.tupleExact _) (wpAny_newObj_type (wpAny_pure ⟨_, rfl, wpAny_pure h⟩) htake))
end
section
variable {X : Cx}
def tRevT (K : PySem.W.Frag) (te : TE) : TE := fun σ H Q => te σ H fun x H1 => ∃ a xs, x = .ref a ∧ SqT K H1 a xs ∧ ∀ p, H1 p = none → Q (.ref p) (upd H1 p (.tup xs.reverse))
theorem pe_revT {e : Expr} {te : TE} {k : Nat} {p1 p2 p3 pos : Pos} (he : PE X e te) : PE X (.Subscript e (.Slice none none (some (.UnaryOp .USub (.Constant (.int 1) k p1) p2)) p3) pos) (tRevT X.K te) := by
  refine ⟨fun pins s σ H Q I h => ?_⟩
  refine Subscript_ (thn (he.run pins s σ H _ I h) fun v s1 ⟨x, H1, I1, r1, q1⟩ => ?_)
  obtain ⟨a, xs, ex, hx, q⟩ := q1
  subst ex
  cases r1
  have hst : PO X (some (.UnaryOp .USub (.Constant (.int 1) k p1) p2)) (tPart (tUn (rU fun i => .int (-i)) (tC (.int 1)))) := po_some (pe_un un_neg pe_int)
  refine wpAny_Slice (thn (po_none.run pins s1 σ H1 (fun o H2 => o = none ∧ H2 = H1) I1 ⟨rfl, rfl⟩) fun vl s2 ⟨l, H2, I2, pl, el, e2⟩ => ?_)
  subst el e2
  refine thn (po_none.run pins s2 σ H2 (fun o H3 => o = none ∧ H3 = H2) I2 ⟨rfl, rfl⟩) fun vu s3 ⟨u, H3, I3, pu, eu, e3⟩ => ?_
  subst eu e3
  refine thn (hst.run pins s3 σ H3 (fun o H4 => o = some (-1) ∧ H4 = H3) I3 ⟨1, rfl, -1, rfl, rfl, rfl⟩) fun vs s4 ⟨o, H4, I4, ps, eo, e4⟩ => ?_
  subst eo e4
  have I5 : Inv X pins σ H4 { s4 with heap := s4.heap.push { cls := .type "slice", data := .fields #[vl, vu, vs] } } := I4.kept (t' := s4.toks) fun b ob q => Heap.get?_push_of_some _ q
  obtain ⟨its, r, ht, hz⟩ := I5.tuple hx
  have hlen := r.length
  show wpAny (model X.prog X.w) X.A (subscriptTail e (.Slice none none (some (.UnaryOp .USub (.Constant (.int 1) k p1) p2)) p3) (.ref a) (.ref s4.heap.objs.size)) (EP X pins σ Q) X.xe { s4 with heap := s4.heap.push { cls := .type "slice", data := .fields #[vl, vu, vs] } }
  refine tail_any (ops := [.ref a, .ref s4.heap.objs.size]) ht.typeIs (PyProof.Rows.slot_tuple_getitem.lookup) ?_ (by with_unfolding_all rfl)
  refine getItem_tuple_rev ht (Heap.IsSliceOf.new _ vl vu vs) pl pu ps ?_ (by rw [List.size_toArray]; omega)
  refine ⟨.ref _, _, I5.laid (t' := s4.toks) (o := .tup xs.reverse) (fun b ob q => Heap.get?_push_of_some _ q) (Nat.le_refl _) ?_, rfl, q _ (I5.hok.fresh (Nat.le_refl _))⟩
  exact ⟨by rw [List.length_reverse]; exact hz, _, r.reverse, IsTup.new _ _⟩
end
end L2

set_option Elab.async false
set_option linter.all false
set_option maxRecDepth 100000
set_option maxHeartbeats 4000000
namespace L2
open PySem PySem.Spec PyProof.Rows
section
variable {P : Program} {w : World} {K : PySem.W.Frag} {mg : Str → Option Value} {base : Heap}
/-! ## normal_row, is_same -/
def spNormal (K : PySem.W.Frag) : Sp := fun vs H Q _ => ∃ v r, vs = [v] ∧ Dp K H v (dR r) ∧ SzF r ∧ Ret K H Q (dR (Lk.nf r))
abbrev sNormalRow : Stmt := topS 19
theorem scNormalRow : FnScope ["row"] ["row"] (defScope sNormalRow) := ⟨rfl, rfl, rfl, by decide +kernel, rfl, by decide +kernel, by decide +kernel⟩
theorem ok_normal_row (D : Df K mg "normal_row" sNormalRow ["row"]) (T : Tx K mg) (GS : Ok' P w K mg base "shortened" ["row", "meets"] 5 (spShort K)) : Ok' P w K mg base "normal_row" ["row"] 6 (spNormal K) := by
  refine D.ok scNormalRow (fun vs H Q E h => ?_) (fun f cdv A outer s H vs Q E hr h => ?_)
  · obtain ⟨v, r, rfl, _⟩ := h; rfl
  · obtain ⟨v, r, rfl, hv, hz, q⟩ := h
    refine ⟨_, pss_one (ps_ret (pe_callTy call_tuple_of (by rfl) T.tuple (by decide +kernel) (pa_cons (pe_cf GS hr (pa_cons (pv 0) (pa_cons (pe_tup pa_nil) pa_nil))) pa_nil))), ?_⟩
    refine ⟨v, rfl, Nat.zero_le _, fun m hm => ?_⟩
    refine ⟨v, m, r, rfl, hv.same (same_upd hm), SqT.of upd_same, hz, fun H' l xs s' hl hx => ?_⟩
    exact ⟨l, xs, rfl, .inl ⟨SqL.of hl, fun p hp => q _ _ (((same_upd hm).trans s').new hp) (.tup (SqT.of upd_same) (hx.same (same_upd hp)))⟩⟩
def spSame (K : PySem.W.Frag) : Sp := fun vs H Q _ => ∃ v u a b, vs = [v, u] ∧ Dp K H v (dR a) ∧ Dp K H u (dR b) ∧ SzF a ∧ SzF b ∧ ∀ H', Same H H' → Q (.bl (decide (Lk.nf a = Lk.nf b))) H'
abbrev sSame : Stmt := topS 20
theorem scSame : FnScope ["row", "other"] ["row", "other"] (defScope sSame) := ⟨rfl, rfl, rfl, by decide +kernel, rfl, by decide +kernel, by decide +kernel⟩
theorem ok_same (D : Df K mg "is_same" sSame ["row", "other"]) (GN : Ok' P w K mg base "normal_row" ["row"] 6 (spNormal K)) : Ok' P w K mg base "is_same" ["row", "other"] 7 (spSame K) := by
  refine D.ok scSame (fun vs H Q E h => ?_) (fun f cdv A outer s H vs Q E hr h => ?_)
  · obtain ⟨v, u, a, b, rfl, _⟩ := h; rfl
  · obtain ⟨v, u, a, b, rfl, hv, hu, ha, hb, q⟩ := h
    refine ⟨_, pss_one (ps_ret (pe_cmpR (op_eqD hr.units) (pe_cf GN hr (pa_cons (pv 0) pa_nil)) (pe_cf GN hr (pa_cons (pv 1) pa_nil)) (nomark _))), ?_⟩
    refine ⟨v, rfl, v, a, rfl, hv, ha, fun H1 v1 s1 h1 => ?_⟩
    refine ⟨u, rfl, u, b, rfl, hu.same s1, hb, fun H2 u1 s2 h2 => ?_⟩
    refine ⟨_, _, h1.same s2, h2, (pl_R _).sh (by decide), (pl_R _).sh (by decide), ?_⟩
    rw [eqv_R]
    exact q _ (s1.trans s2)
/-! ## the law's own normal row -/
theorem atI_m1 {xs : List V} {k : Nat} {v : V} (hl : xs.length = k + 1) (h : xs[k]? = some v) : atI xs (-1) = some v := by
  unfold atI ixN
  rw [if_neg (by decide), if_pos (by omega)]
  show xs[(-1 + (xs.length : Int)).toNat]? = some v
  rw [show (-1 + (xs.length : Int)).toNat = k by omega]
  exact h
theorem num_zero (x : Rat) : decide (V.int x.num = V.int 0) = decide (x = 0) := by
  by_cases h : x = 0
  · subst h; rfl
  · rw [dVne (fun z => h (Rat.num_eq_zero.mp z)), decide_eq_false h]
abbrev sLNormal : Stmt := topS 41
theorem scLNormal : FnScope ["_law_flows_so", "_law_pile_so", "_law_one_so", "_law_far"] ["_law_flows_so"] (defScope sLNormal) := ⟨rfl, rfl, rfl, by decide +kernel, rfl, by decide +kernel, by decide +kernel⟩
theorem ok_lnormal (D : Df K mg "_law_normal" sLNormal ["_law_flows_so"]) (T : Tx K mg) (GA : Ok' P w K mg base "_law_add" ["_law_own", "_law_far"] 2 (sp2 K fun x y => x + y)) : Ok' P w K mg base "_law_normal" ["_law_flows_so"] 3 (spNormal K) := by
  refine D.ok scLNormal (fun vs H Q E h => ?_) (fun f cdv A outer s H vs Q E hr h => ?_)
  · obtain ⟨v, r, rfl, _⟩ := h; rfl
  · obtain ⟨v, r, rfl, hv, hz, q⟩ := h
    obtain ⟨a, ys, rfl, hs, ha⟩ := hv.R
    refine ⟨_, pss_cons (ps_set (i := 1) scLNormal.nd rfl (.inl rfl) (pe_lst pa_nil)) (pss_cons (ps_for PassesOwn.never rfl (pi_tup (pv 0)) (pg_tup rfl (pgs_cons (pg_name (i := 2) scLNormal.nd rfl (Or.inl rfl)) (pgs_cons (pg_name (i := 3) scLNormal.nd rfl (Or.inl rfl)) pgs_nil)))
      (pss_cons (ps_if (PW.pt (pw_and (pt_cmpR (op_neD hr.units) (pv 1) (pe_lst pa_nil) (nomark _)) (pw_and1 (pt_cmpR op_eq (pe_ix ix_tup (pe_ix ix_list (pv 1) (pe_un un_neg pe_int) (fun _ _ => rfl)) pe_int (fun _ _ => rfl)) (pv 2) (nomark _)))))
        (pss_one (ps_set (i := 3) scLNormal.nd rfl (.inl rfl) (pe_cf GA hr (pa_cons (pe_ix ix_tup (pe_bm0 PySem.F.plainAttrs_list PySem.F.slot_list_pop PySem.F.type_list_pop mt_pop (pv 1)) pe_int (fun _ _ => rfl)) (pa_cons (pv 3) pa_nil))))) pss_nil)
      (pss_one (ps_if (pt_cmpR op_ne (pe_ix ix_tup (pv 3) pe_int (fun _ _ => rfl)) pe_int (nomark _)) (pss_one (ps_expr (pe_bm PySem.F.plainAttrs_list PySem.F.slot_list_append PySem.F.type_list_append mt_append (pv 1) (pa_cons (pe_tup (pa_cons (pv 2) (pa_cons (pv 3) pa_nil))) pa_nil)))) pss_nil))))
      (pss_one (ps_ret (pe_callTy call_tuple_of (by rfl) T.tuple (by decide +kernel) (pa_cons (pv 1) pa_nil))))), ?_⟩
    refine ⟨Nat.zero_le _, fun l hl => ?_⟩
    have hlen : ys.length = r.length := by rw [ha.length, List.length_map]
    have t0 : Tk K H (upd H l (.lst [])) := Same.tk (same_upd hl)
    refine ⟨.ref a, rfl, a, rfl, ⟨_, t0 _ _ hs⟩, ?_⟩
    refine for_it (walk_tup (K := K) (xs := ys)) (fun i σ H' => ∃ xs c2 c3, σ = [some (.ref a), some (.ref l), c2, c3] ∧ H' l = some (.lst xs) ∧ Same H H' ∧ DpAll K H' xs ((pil r i).reverse.map dP))
      ⟨[], none, none, rfl, upd_same, same_upd hl, .nil⟩ (fun i σ H' _ hp => by obtain ⟨_, _, _, _, _, h3, _⟩ := hp; exact Same.tk h3 _ _ hs) ?_ ?_
    · rintro i x σ H2 H3 hi ⟨xs, c2, c3, rfl, h1, h2, h4⟩ ⟨rfl, hx⟩
      obtain ⟨d, e1, e2⟩ := ha.at hx
      rw [List.getElem?_map] at e1
      cases er : r[i]? with
      | none => rw [er] at e1; cases e1
      | some pr =>
        rw [er] at e1; cases e1
        obtain ⟨p, x⟩ := pr
        have hpx : Sz x := hz.2.1 (p, x) (List.mem_of_getElem? er)
        have hps := pil_succ er
        generalize ht : pil r i = t at h4 hps
        have hzt : ∀ b ∈ t, Sz b.2 := fun b hb => hz.2.2 i b (by rw [ht]; exact hb)
        have htl : t.length ≤ 1000 := by have := pil_len r i; rw [ht] at this; have := hz.1; omega
        obtain ⟨b, fv, rfl, hb, hf⟩ := (e2.same h2).P
        refine ⟨b, _, rfl, hb, rfl, _, _, rfl, _, _, rfl, rfl, ?_⟩
        -- if pile != [] and ..
        refine ⟨_, rfl, Nat.zero_le _, fun N hN => ?_⟩
        have sN := same_upd (o := .lst []) hN
        have k1 := sN _ _ h1
        have k2 := h2.trans sN
        have k4 := h4.same sN
        have kf := hf.same sN
        have hxl : xs.length = t.length := by rw [k4.length]; simp
        refine ⟨.list (t.reverse.map dP), .list [], .lst (SqL.of k1) k4, .lst (SqL.of upd_same) .nil, (Pl.lst (n := 2) fun d hd => ?_).sh (by decide), (Pl.lst (n := 2) (l := []) fun d hd => by simp at hd).sh (by decide), _, rfl, ?_⟩
        · obtain ⟨c, _, rfl⟩ := List.mem_map.mp hd
          exact pl_P c
        -- the append
        have fin : ∀ (H5 : Hp) (z : Rat) (zv : V) (t1 : Row) (zs : List V), Same H H5 → H5 l = some (.lst zs) → DpAll K H5 zs (t1.reverse.map dP) → t1.length ≤ 1000 → Dp K H5 zv (dF z) → Lk.pu t (p, x) = (if z = 0 then t1 else (p, z) :: t1) →
            tIfS (tTest (tOp rNe (tOp (rIxT K) (tVar 3) (tC (.int 0))) (tC (.int 0)))) (tDrop (tBM K "list" rAppend (tVar 1) (tCons (tTup (tCons (tVar 2) (tCons (tVar 3) tNil))) tNil))) tNext
              { nx := fun σ H' => ∃ xs c2 c3, σ = [some (.ref a), some (.ref l), c2, c3] ∧ H' l = some (.lst xs) ∧ Same H H' ∧ DpAll K H' xs ((pil r (i + 1)).reverse.map dP), rt := Q, bk := fun σ' H' => tRet (tCB (fun xs H Q => ∃ p ys, xs = [.ref p] ∧ ((SqL K H p ys ∧ ∀ l, H l = none → Q (.ref l) (upd H l (.tup ys))) ∨ (SqT K H p ys ∧ Q (.ref p) H))) (tCons (tVar 1) tNil)) { nx := fun _ H' => Q .non H', rt := Q } σ' H', ct := fun σ H' => ∃ xs c2 c3, σ = [some (.ref a), some (.ref l), c2, c3] ∧ H' l = some (.lst xs) ∧ Same H H' ∧ DpAll K H' xs ((pil r (i + 1)).reverse.map dP) }
              [some (.ref a), some (.ref l), some (.int p), some zv] H5 := by
          intro H5 z zv t1 zs s5 g1 g2 gl gz e
          obtain ⟨bz, rfl, hbz⟩ := gz.F
          refine ⟨_, rfl, bz, _, _, _, rfl, rfl, hbz, rfl, rfl, _, rfl, ?_⟩
          rw [num_zero]
          by_cases hx0 : z = 0
          · refine ifF (by simp [hx0]) ?_
            refine ⟨zs, _, _, rfl, g1, s5, ?_⟩
            rw [hps, e, if_pos hx0]; exact g2
          · refine ifT (by simp [hx0]) ?_
            refine ⟨_, rfl, .inl ⟨rfl, _, SqL.of g1⟩, _, rfl, _, rfl, by show 2 ≤ sizeLine; decide, fun T1 hT => ?_⟩
            have k5 : upd H5 T1 (.tup [.int p, .ref bz]) l = some (.lst zs) := by rw [upd_ne (ne_of_none g1 hT)]; exact g1
            have hzl : zs.length = t1.length := by rw [g2.length]; simp
            refine ⟨l, zs, _, rfl, rfl, k5, small1000 (by omega), ?_⟩
            refine ⟨_, _, _, rfl, upd_same, (s5.new hT).put hl, ?_⟩
            rw [hps, e, if_neg hx0, List.reverse_cons, List.map_append]
            exact ((g2.same (same_upd hT)).snoc (Dp.mkP (p := (p, z)) (SqT.of upd_same) (gz.same (same_upd hT)))).tk (by rw [← List.map_singleton, ← List.map_append]; exact nol_Ps _) (tk_updL k5)
        cases t with
        | nil =>
          refine ifF (by rfl) ?_
          exact ifF rfl (fin _ x fv [] xs k2 k1 k4 (by simp) kf (Lk.pu_nil p x))
        | cons a0 t =>
          obtain ⟨p0, y⟩ := a0
          have hget : (((p0, y) :: t).reverse.map dP)[t.length]? = some (dP (p0, y)) := by simp
          obtain ⟨v1, hv1, hv2⟩ := k4.get hget
          obtain ⟨b1, f1, rfl, hb1, hf1⟩ := hv2.P
          have hxl' : xs.length = t.length + 1 := by rw [hxl]; rfl
          have hne : PyData.eqv (.list (((p0, y) :: t).reverse.map dP)) (.list []) = false := by
            simp only [PyData.eqv]
            cases hh : ((p0, y) :: t).reverse.map dP with
            | nil => simp at hh
            | cons _ _ => simp [PyData.eqvAll]
          refine ifT (by rw [hne]; rfl) ?_
          refine ⟨_, rfl, _, rfl, l, xs, _, _, rfl, rfl, SqL.of k1, atI_m1 hxl' hv1, b1, _, _, _, rfl, rfl, hb1, rfl, _, rfl, rfl, _, rfl, ?_⟩
          by_cases hp0 : p0 = p
          · subst hp0
            refine ifT (dVeq rfl) ?_
            have hy : Sz y := hzt (p0, y) (List.mem_cons_self ..)
            refine ⟨_, rfl, .inl ⟨rfl, _, SqL.of k1⟩, l, xs, .ref b1, rfl, rfl, k1, ?_, ?_⟩
            · rw [show xs.length - 1 = t.length by omega]; exact hv1
            · have e3 : xs.dropLast = xs.take t.length := by rw [List.dropLast_eq_take, show xs.length - 1 = t.length by omega]
              rw [e3]
              have m2 := k2.put (o := .lst (xs.take t.length)) hl
              have tk3 := tk_updL (K := K) (zs := xs.take t.length) k1
              have m4 : DpAll K (upd (upd H3 N (.lst [])) l (.lst (xs.take t.length))) (xs.take t.length) (t.reverse.map dP) := by
                have := (k4.take t.length).tk (fun d hd => nol_Ps _ d (List.mem_of_mem_take hd)) tk3
                rw [← List.map_take, List.reverse_cons, List.take_left' (by simp)] at this
                exact this
              refine ⟨b1, _, _, _, rfl, rfl, tk3 _ _ hb1, rfl, _, rfl, f1, fv, y, x, rfl, hf1.tk (nol_F _) tk3, kf.tk (nol_F _) tk3, hy, hpx, fun H5 sv s5 hsv => ?_⟩
              exact fin H5 (y + x) sv t (xs.take t.length) (m2.trans s5) (s5 _ _ upd_same) (m4.same s5) (by simp at htl; omega) hsv (Lk.pu_hit p0 y x t)
          · refine ifF (dVne hp0) ?_
            exact fin _ x fv _ xs k2 k1 k4 htl kf (Lk.pu_miss hp0 y x t)
    · rintro σ H2 ⟨xs, c2, c3, rfl, h1, h2, h4⟩
      rw [hlen, pil_all] at h4
      exact ⟨_, rfl, l, xs, rfl, .inl ⟨SqL.of h1, fun p hp => q _ _ (h2.new hp) (.tup (SqT.of upd_same) (h4.same (same_upd hp)))⟩⟩
end
end L2

set_option Elab.async false
set_option linter.all false
set_option maxRecDepth 100000
set_option maxHeartbeats 4000000
namespace L2
open PySem PySem.Spec PyProof.Rows
section
variable {P : Program} {w : World} {K : PySem.W.Frag} {mg : Str → Option Value} {base : Heap}
/-! ## undone -/
def spUndone (K : PySem.W.Frag) : Sp := fun vs H Q _ => ∃ v r, vs = [v] ∧ Dp K H v (dR r) ∧ r.length ≤ 1000 ∧ Ret K H Q (dR (Lk.inv r))
abbrev sUndone : Stmt := topS 42
theorem scUndone : FnScope ["_law_flows_so", "_law_one_so", "_law_far"] ["_law_flows_so"] (defScope sUndone) := ⟨rfl, rfl, rfl, by decide +kernel, rfl, by decide +kernel, by decide +kernel⟩
theorem ok_undone (D : Df K mg "_law_undone" sUndone ["_law_flows_so"]) (T : Tx K mg) : Ok' P w K mg base "_law_undone" ["_law_flows_so"] 1 (spUndone K) := by
  refine D.ok scUndone (fun vs H Q E h => ?_) (fun f cdv A outer s H vs Q E hr h => ?_)
  · obtain ⟨v, r, rfl, _⟩ := h; rfl
  · obtain ⟨v, r, rfl, hv, hz, q⟩ := h
    obtain ⟨a, xs, rfl, hs, ha⟩ := hv.R
    refine ⟨_, pss_one (ps_ret (pe_callTy call_tuple_of (by rfl) T.tuple (by decide +kernel) (pa_cons (pe_lc (own := [("_law_one_so", 1), ("_law_far", 2)]) (g := gTup K 2 (gCons (gName 1) (gCons (gName 2) gNil))) (tt := tYes) rfl scUndone.nd
        (pi_tup (pe_revT (pv 0))) (blkOk_by (N := ["_law_flows_so", "_law_one_so", "_law_far"]) (sc := defScope sUndone) (by decide +kernel))
        (fun _ _ _ _ _ => pg_tup rfl (pgs_cons (pg_name (i := 1) scUndone.nd rfl (Or.inl rfl)) (pgs_cons (pg_name (i := 2) scUndone.nd rfl (Or.inl rfl)) pgs_nil))) (fun _ _ _ _ _ => pts_nil)
        (fun _ _ _ _ _ => pe_tup (pa_cons (pv 1) (pa_cons (pe_tup (pa_cons (pe_op op_sub pe_int (pe_ix (ixt (K := K) rfl) (pv 2) pe_int (fun _ _ => rfl))) (pa_cons (pe_ix (ixt (K := K) rfl) (pv 2) pe_int (fun _ _ => rfl)) pa_nil))) pa_nil)))) pa_nil))), ?_⟩
    refine ⟨_, rfl, a, xs, rfl, hs, fun p hp => ?_⟩
    have s1 := same_upd (o := .tup xs.reverse) hp
    refine ⟨p, rfl, ⟨_, SqT.of upd_same⟩, fun D hD => ?_⟩
    have hlen : xs.reverse.length = r.length := by rw [List.length_reverse, ha.length, List.length_map]
    refine lc_map (K := K) (walk_tup (xs := xs.reverse)) ((Lk.inv r).map dP) (by rw [List.length_map, Lk.inv_len]; exact hlen.symm) (by rw [hlen]; exact hz) (nol_Ps _) hD (fun H' s' => SqT.of (s' _ _ upd_same)) yat_same ?_ gP_mono ?_
    · rintro i x H2 H3 d R ed s2 ⟨rfl, hx⟩ hR
      obtain ⟨d', e1, e2⟩ := ha.reverse.at hx
      rw [inv_map] at ed
      rw [← List.map_reverse, List.getElem?_map] at e1
      rw [List.getElem?_map] at ed
      cases hi : r.reverse[i]? with
      | none => rw [hi] at e1; cases e1
      | some p0 =>
        rw [hi] at e1 ed
        cases e1; cases ed
        obtain ⟨b, fv, rfl, hb, hf⟩ := (e2.same (s1.trans s2)).P
        obtain ⟨bf, rfl, hbf⟩ := hf.F
        refine ⟨b, _, rfl, hb, rfl, _, _, rfl, _, _, rfl, rfl, rfl, ?_⟩
        refine ⟨_, rfl, _, rfl, bf, _, _, _, rfl, rfl, hbf, rfl, _, _, rfl, rfl, _, rfl, bf, _, _, _, rfl, rfl, hbf, rfl, ?_⟩
        refine ⟨by show 2 ≤ sizeLine; decide, fun t ht => ?_⟩
        refine ⟨by show 2 ≤ sizeLine; decide, fun t2 ht2 => ?_⟩
        refine hR _ _ ((same_upd ht).new ht2) (Dp.mkP (p := (p0.1, -p0.2)) (SqT.of upd_same) ?_)
        refine Dp.same (Dp.mkF (x := -p0.2) (SqT.of ?_)) (same_upd ht2)
        rw [upd_same]
        show some (HO.tup [.int (0 - p0.2.num), .int (p0.2.den : Int)]) = some (HO.tup [.int (-p0.2.num), .int (p0.2.den : Int)])
        rw [Int.zero_sub]
    · intro H2 ys s2 h1 h2
      exact ⟨D, ys, rfl, .inl ⟨SqL.of h1, fun l hl => q _ _ ((s1.trans s2).new hl) (.tup (SqT.of upd_same) (h2.same (same_upd hl)))⟩⟩
/-! ## slices of data -/
theorem cut_data {H : Hp} {Q : VK} {v : V} {ds : List PyData} {lo hi : Option Int} (hv : Dp K H v (.tuple ds)) (q : Ret K H Q (.tuple ((ds.drop (HT.sIx ds.length 0 lo)).take (HT.sIx ds.length ds.length hi - HT.sIx ds.length 0 lo)))) : rSlA K v lo hi H Q := by
  obtain ⟨a, xs, rfl, hs, ha⟩ := hv.tupI
  have hl := ha.length
  refine ⟨a, xs, rfl, hs, fun e => ?_, fun _ p hp => ?_⟩
  · rw [hl] at e
    rw [e.1, e.2, Nat.sub_zero, List.drop_zero, List.take_length] at q
    exact q _ _ (Same.refl _) hv
  · refine q _ _ (same_upd hp) (.tup (SqT.of upd_same) ?_)
    unfold cutV
    rw [hl]
    exact ((ha.drop _).take _).same (same_upd hp)
theorem cut_from (ds : List PyData) (k : Nat) : ((ds.drop (HT.sIx ds.length 0 (some (k : Int)))).take (HT.sIx ds.length ds.length none - HT.sIx ds.length 0 (some (k : Int)))) = ds.drop k := by
  rw [HT.sIx_nat, HT.sIx_none]
  by_cases h : k ≤ ds.length
  · rw [Nat.min_eq_left h, List.take_of_length_le (by rw [List.length_drop]; omega)]
  · rw [Nat.min_eq_right (by omega), List.drop_length, List.drop_of_length_le (by omega)]
    simp
theorem cut_to (ds : List PyData) (k : Nat) : ((ds.drop (HT.sIx ds.length 0 none)).take (HT.sIx ds.length ds.length (some (k : Int)) - HT.sIx ds.length 0 none)) = ds.take k := by
  rw [HT.sIx_nat, HT.sIx_none, List.drop_zero, Nat.sub_zero]
  by_cases h : k ≤ ds.length
  · rw [Nat.min_eq_left h]
  · rw [Nat.min_eq_right (by omega), List.take_length, List.take_of_length_le (by omega)]
/-! ## the ring -/
def SzG (r : Row) : Prop := SzF r ∧ ∀ i, SzF ((Lk.laps i (Lk.nf r)).tail ++ (Lk.laps i (Lk.nf r)).take 1)
theorem laps_succ : ∀ (i : Nat) (r : Row), Lk.laps (i + 1) r = Lk.turnR (Lk.laps i r)
  | 0, _ => rfl
  | i + 1, r => by
    show Lk.laps (i + 1) (Lk.turnR r) = _
    rw [laps_succ i]; rfl
def spRing (K : PySem.W.Frag) : Sp := fun vs H Q _ => ∃ v r, vs = [v] ∧ Dp K H v (dR r) ∧ SzG r ∧ Ret K H Q (dR (Lk.ring r))
abbrev sRing : Stmt := topS 46
theorem scRing : FnScope ["_law_flows_so", "_law_own", "_law_lap"] ["_law_flows_so"] (defScope sRing) := ⟨rfl, rfl, rfl, by decide +kernel, rfl, by decide +kernel, by decide +kernel⟩
theorem nf_len (r : Row) : (Lk.nf r).length ≤ r.length := by
  unfold Lk.nf Lk.nfr
  have := fold_len r []
  simp at this ⊢
  omega
theorem turn_le (r : Row) : (Lk.turnR r).length ≤ r.length := by
  unfold Lk.turnR
  split
  · refine Nat.le_trans (nf_len _) ?_
    simp
    omega
  · exact Nat.le_refl _
theorem laps_le : ∀ (i : Nat) (r : Row), (Lk.laps i r).length ≤ r.length
  | 0, _ => Nat.le_refl _
  | i + 1, r => Nat.le_trans (laps_le i _) (turn_le r)
theorem ok_ring (D : Df K mg "_law_ring" sRing ["_law_flows_so"]) (T : Tx K mg) (GN : Ok' P w K mg base "_law_normal" ["_law_flows_so"] 3 (spNormal K)) : Ok' P w K mg base "_law_ring" ["_law_flows_so"] 4 (spRing K) := by
  refine D.ok scRing (fun vs H Q E h => ?_) (fun f cdv A outer s H vs Q E hr h => ?_)
  · obtain ⟨v, r, rfl, _⟩ := h; rfl
  · obtain ⟨v, r, rfl, hv, hz, q⟩ := h
    refine ⟨_, pss_cons (ps_set (i := 1) scRing.nd rfl (.inl rfl) (pe_cf GN hr (pa_cons (pv 0) pa_nil))) (pss_cons (ps_for PassesOwn.never rfl (pi_range1 (by rfl) T.range (pa_cons (pe_callB call_len_seq (by rfl) T.len PySem.boot_len (pa_cons (pv 1) pa_nil)) pa_nil)) (pg_name (i := 2) scRing.nd rfl (Or.inl rfl))
      (pss_one (ps_if (PW.pt (pw_and (pt_cmpR op_gt (pe_callB call_len_seq (by rfl) T.len PySem.boot_len (pa_cons (pv 1) pa_nil)) pe_int (nomark _)) (pw_and1 (pt_cmpR op_eq (pe_ix ix_tup (pe_ix ix_tup (pv 1) pe_int (fun _ _ => rfl)) pe_int (fun _ _ => rfl)) (pe_ix ix_tup (pe_ix ix_tup (pv 1) (pe_un un_neg pe_int) (fun _ _ => rfl)) pe_int (fun _ _ => rfl)) (nomark _)))))
        (pss_one (ps_set (i := 1) scRing.nd rfl (.inl rfl) (pe_cf GN hr (pa_cons (pe_op op_catA (pe_slice sl_tupA (pv 1) (po_some pe_int) po_none) (pe_slice sl_tupA (pv 1) po_none (po_some pe_int))) pa_nil)))) pss_nil)))
      (pss_one (ps_ret (pv 1)))), ?_⟩
    refine ⟨v, rfl, v, r, rfl, hv, hz.1, fun H1 u s1 hu => ?_⟩
    obtain ⟨a0, xs0, rfl, hs0, ha0⟩ := hu.R
    have hl0 : xs0.length = (Lk.nf r).length := by rw [ha0.length, List.length_map]
    have hb0 : (Lk.nf r).length ≤ 1000 := Nat.le_trans (nf_len r) hz.1.1
    refine ⟨_, rfl, a0, xs0, rfl, .inr hs0, _, rfl, by omega, by omega, ?_⟩
    rw [hl0]
    refine for_it walk_range (fun i σ H' => ∃ u c2, σ = [some v, some u, c2] ∧ Same H H' ∧ Dp K H' u (dR (Lk.laps i (Lk.nf r)))) ⟨_, none, rfl, s1, hu⟩ (fun _ _ _ _ _ => True.intro) ?_ ?_
    · rintro i x σ H2 H3 hi ⟨u, c2, rfl, s2, h2⟩ ⟨rfl, rfl⟩
      have hsz := hz.2 i
      have hll := laps_le i (Lk.nf r)
      rw [laps_succ i]
      generalize Lk.laps i (Lk.nf r) = o at h2 hsz hll
      obtain ⟨a, xs, rfl, hs, ha⟩ := h2.R
      have hlen : xs.length = o.length := by rw [ha.length, List.length_map]
      refine ⟨_, rfl, a, xs, rfl, .inr hs, _, _, rfl, rfl, _, rfl, ?_⟩
      by_cases h1 : 1 < o.length
      · refine ifT (decide_eq_true (by omega)) ?_
        obtain ⟨p0, o', rfl⟩ : ∃ p0 o', o = p0 :: o' := by cases o with | nil => simp at h1 | cons p0 o' => exact ⟨_, _, rfl⟩
        obtain ⟨v0, g0, k0⟩ := ha.get (i := 0) (d := dP p0) rfl
        have hlast : ((p0 :: o').map dP)[o'.length]? = some (dP ((p0 :: o').getLast (by simp))) := by
          rw [List.getElem?_map, show (p0 :: o')[o'.length]? = (p0 :: o').getLast? by rw [List.getLast?_eq_getElem?]; rfl, List.getLast?_eq_getLast (by simp)]; rfl
        obtain ⟨v1, g1, k1⟩ := ha.get hlast
        obtain ⟨b0, f0, rfl, q0, _⟩ := k0.P
        obtain ⟨b1, f1, rfl, q1, _⟩ := k1.P
        have hlt : Lk.lt (p0 :: o') = ((p0 :: o').getLast (by simp)).1 := by unfold Lk.lt; rw [List.getLast?_eq_getLast (by simp)]; rfl
        refine ⟨_, rfl, a, xs, _, _, rfl, rfl, hs, atI_nat (j := 0) g0, b0, _, _, _, rfl, rfl, q0, rfl, ?_⟩
        refine ⟨_, rfl, _, rfl, a, xs, _, _, rfl, rfl, hs, atI_m1 (by simpa using hlen) g1, b1, _, _, _, rfl, rfl, q1, rfl, rfl, _, rfl, ?_⟩
        by_cases he : p0.1 = Lk.lt (p0 :: o')
        · refine ifT (dVeq (by rw [← hlt]; exact he)) ?_
          have et : Lk.turnR (p0 :: o') = Lk.nf ((p0 :: o').tail ++ (p0 :: o').take 1) := by
            unfold Lk.turnR; rw [if_pos ⟨h1, he⟩]
          rw [et]
          refine ⟨_, rfl, 1, rfl, ?_⟩
          dsimp only [tNoPart]
          refine cut_data h2 fun H4 u4 s4 h4 => ?_
          have h4 : Dp K H4 u4 (.tuple (((p0 :: o').map dP).drop 1)) := by rw [← cut_from _ 1]; exact h4
          refine ⟨_, rfl, ?_⟩
          dsimp only [tNoPart]
          refine ⟨1, rfl, cut_data (h2.same s4) fun H5 u5 s5 h5 => ?_⟩
          have h5 : Dp K H5 u5 (.tuple (((p0 :: o').map dP).take 1)) := by rw [← cut_to _ 1]; exact h5
          refine cat_data (h4.same s5) h5 (by simp at hlen hll ⊢; omega) fun H6 u6 s6 h6 => ?_
          rw [← List.map_drop, ← List.map_take, ← List.map_append, List.drop_one] at h6
          refine ⟨u6, _, rfl, h6, hsz, fun H7 u7 s7 h7 => ?_⟩
          exact ⟨u7, _, rfl, (((s2.trans s4).trans s5).trans s6).trans s7, h7⟩
        · refine ifF (dVne (by rw [← hlt]; exact he)) ?_
          have et : Lk.turnR (p0 :: o') = p0 :: o' := by
            unfold Lk.turnR; rw [if_neg fun z => he z.2]
          rw [et]
          exact ⟨_, _, rfl, s2, h2⟩
      · refine ifF (decide_eq_false (by omega)) ?_
        have et : Lk.turnR o = o := by
          unfold Lk.turnR; rw [if_neg fun z => h1 z.1]
        rw [et]
        refine ifF rfl ?_
        exact ⟨_, _, rfl, s2, h2⟩
    · rintro σ H2 ⟨u, c2, rfl, s2, h2⟩
      exact ⟨_, rfl, q _ _ s2 h2⟩
end
end L2

set_option Elab.async false
set_option linter.all false
set_option maxRecDepth 100000
set_option maxHeartbeats 4000000
namespace L2
open PySem PySem.Spec PyProof.Rows
open Lk (In Six Bd SixR Wt)
/-! ## worths -/
theorem in_sz {D M : Nat} {x : Rat} (h : In D M x) (hD : D ≠ 0) (h1 : D < 2 ^ 1000) (h2 : M < 2 ^ 1000) : Sz x := by
  obtain ⟨a, b⟩ := h.parts hD
  exact ⟨by omega, by omega⟩
theorem p144 {n : Nat} (h : n ≤ 8) : 144 ^ n ≠ 0 ∧ 144 ^ n < 2 ^ 1000 := by
  have h1 : 144 ^ n ≤ 144 ^ 8 := Nat.pow_le_pow_right (by decide) h
  have h2 : 144 ^ 8 < 2 ^ 64 := by decide
  have h3 : 2 ^ 64 ≤ 2 ^ 1000 := two_lt (by decide)
  have h4 : 0 < 144 ^ n := Nat.pow_pos (by decide)
  exact ⟨by omega, by omega⟩
theorem six_sz {x : Rat} {M : Nat} (h : In 6 M x) (hM : M ≤ 2 ^ 900) : Sz x := by
  have h3 : 2 ^ 64 ≤ 2 ^ 1000 := two_lt (by decide)
  have h4 : 2 ^ 900 < 2 ^ 1000 := Nat.pow_lt_pow_right (by decide) (by decide)
  exact in_sz h (by decide) (by omega) (by omega)
/-- the values of a word's beginnings -/
def valsF (F : Lk.Fn) (w : List Int) : List Rat := (List.range (w.length + 1)).map fun i => F (w.take i).reverse
theorem valsF_len (F : Lk.Fn) (w : List Int) : (valsF F w).length = w.length + 1 := by simp [valsF]
theorem valsF_get (F : Lk.Fn) (w : List Int) {i : Nat} (h : i ≤ w.length) : (valsF F w)[i]? = some (F (w.take i).reverse) := by
  unfold valsF
  rw [List.getElem?_map, List.getElem?_range (by omega)]; rfl
theorem take_rev {w : List Int} {k : Nat} {c : Int} (h : w[k]? = some c) : (w.take (k + 1)).reverse = c :: (w.take k).reverse := by
  rw [List.take_add_one, h, List.reverse_append]; rfl
theorem rev_suffix (w : List Int) (k : Nat) : (w.take k).reverse <:+ w.reverse := by
  refine ⟨(w.drop k).reverse, ?_⟩
  rw [← List.reverse_append, List.take_append_drop]
/-- bounds within the loop over a word's end -/
theorem tot_bound {M j : Nat} (hj : j ≤ 4) (hM : M ≤ 2 ^ 900) : M * ((j + 1) * 576 ^ j) < 2 ^ 1000 := by
  have h1 : (j + 1) * 576 ^ j ≤ 5 * 576 ^ 4 := Nat.mul_le_mul (by omega) (Nat.pow_le_pow_right (by decide) hj)
  have h2 : M * ((j + 1) * 576 ^ j) ≤ 2 ^ 900 * (5 * 576 ^ 4) := Nat.mul_le_mul hM h1
  have h3 : 5 * 576 ^ 4 ≤ 2 ^ 40 := by decide
  have h4 : 2 ^ 900 * (5 * 576 ^ 4) ≤ 2 ^ 900 * 2 ^ 40 := Nat.mul_le_mul_left _ h3
  rw [← Nat.pow_add] at h4
  have h5 : 2 ^ (900 + 40) < 2 ^ 1000 := Nat.pow_lt_pow_right (by decide) (by decide)
  omega
theorem p576 {j : Nat} (hj : j ≤ 4) : 576 ^ j < 2 ^ 1000 := by
  have h1 : 576 ^ j ≤ 576 ^ 4 := Nat.pow_le_pow_right (by decide) hj
  have h2 : 576 ^ 4 < 2 ^ 64 := by decide
  have h3 : 2 ^ 64 ≤ 2 ^ 1000 := two_lt (by decide)
  omega
theorem step_tot {M n j : Nat} {t u : Rat} (ht : In (144 ^ n) (M * ((j + 1) * 576 ^ j)) t) (hu : In (144 ^ n) (M * 576 ^ (j + 1)) u) : In (144 ^ n) (M * ((j + 1 + 1) * 576 ^ (j + 1))) (t + u) := by
  refine (ht.add hu).mono ?_
  rw [← Nat.mul_add]
  refine Nat.mul_le_mul_left _ ?_
  rw [Nat.add_mul (j + 1) 1, Nat.one_mul]
  refine Nat.add_le_add_right (Nat.mul_le_mul_left _ (Nat.pow_le_pow_right (by decide) (by omega))) _
theorem step_term {j : Nat} {m x : Rat} {k : Nat} (hm : In (144 ^ j) (576 ^ j) m) (hx : Six x) (h1 : 1 ≤ k) (h4 : k ≤ 4) : In (144 ^ (j + 1)) (576 ^ (j + 1)) (m * (x / (k : Rat))) := by
  have := hm.mul (Lk.six_quot hx h1 h4)
  rw [← Nat.pow_succ, ← Nat.pow_succ] at this
  exact this
theorem step_part {M a j n : Nat} {f m : Rat} (hf : In (144 ^ a) M f) (hm : In (144 ^ j) (576 ^ j) m) (e : a + j = n) : In (144 ^ n) (M * 576 ^ j) (f * m) := by
  have := hf.mul hm
  rw [← Nat.pow_add, e] at this
  exact this
section
variable {P : Program} {w : World} {K : PySem.W.Frag} {mg : Str → Option Value} {base : Heap}
def spBehind (K : PySem.W.Frag) : Sp := fun vs H Q _ => ∃ l v p u x xs F wd M, vs = [.ref l, v, .int p, u] ∧ SqL K H l xs ∧ DpAll K H xs ((valsF F wd).map dF) ∧ Dp K H v (dW wd) ∧ Dp K H u (dF x) ∧ wd.length ≤ 4 ∧ Six x ∧ Bd M F wd.reverse ∧ M ≤ 2 ^ 900 ∧
  ∀ H' l' ys, Same H H' → H' l' = some (.lst ys) → DpAll K H' ys ((valsF (Lk.E p x F) wd).map dF) → Q (.ref l') H'
abbrev sBehind : Stmt := topS 27
theorem scBehind : FnScope ["found", "letters", "part", "x", "fresh", "at", "total", "term", "here"] ["found", "letters", "part", "x"] (defScope sBehind) := ⟨rfl, rfl, rfl, by decide +kernel, rfl, by decide +kernel, by decide +kernel⟩
theorem ok_behind (D : Df K mg "_behind" sBehind ["found", "letters", "part", "x"]) (T : Tx K mg) (GW : Ok' P w K mg base "whole" ["number"] 2 (spWhole K)) (GA : Ok' P w K mg base "plus" ["x", "y"] 2 (sp2 K fun x y => x + y)) (GM : Ok' P w K mg base "times" ["x", "y"] 2 (sp2 K fun x y => x * y)) (GO : Ok' P w K mg base "over" ["x", "y"] 2 (spOver K)) :
    Ok' P w K mg base "_behind" ["found", "letters", "part", "x"] 3 (spBehind K) := by
  refine D.ok scBehind (fun vs H Q E h => ?_) (fun f cdv A outer s H vs Q E hr h => ?_)
  · obtain ⟨l, v, p, u, x, xs, F, wd, M, rfl, _⟩ := h; rfl
  · obtain ⟨l, v, p, u, x, xs, F, wd, M, rfl, hl, hx, hv, hu, h4, h6, hB, hM, q⟩ := h
    obtain ⟨a1, m1, hone⟩ := T.ONE
    obtain ⟨aw, rfl, hw⟩ := hv.W
    refine ⟨_, pss_cons (ps_set (i := 4) scBehind.nd rfl (.inl rfl) (pe_lst pa_nil)) (pss_cons (ps_for PassesOwn.never rfl (pi_range1 (by rfl) T.range (pa_cons (pe_callB call_len_seq (by rfl) T.len PySem.boot_len (pa_cons (pv 0) pa_nil)) pa_nil)) (pg_name (i := 5) scBehind.nd rfl (Or.inl rfl))
      (pss_cons (ps_par3 (i := 6) (j := 7) (l := 8) (by rfl) scBehind.nd rfl rfl rfl (by decide) (by decide) (by decide) rfl rfl rfl (pa_cons (pe_ix ix_list (pv 0) (pv 5) (fun _ _ => rfl)) (pa_cons (pe_glob (v := .ref a1) (by rfl) m1 rfl) (pa_cons (pv 5) pa_nil))) (by rfl))
      (pss_cons (ps_while PassesOwn.never (PW.pt (pw_and (pt_cmpR op_gt (pv 8) pe_int (nomark _)) (pw_and1 (pt_cmpR op_eq (pe_ix ix_tup (pv 1) (pe_op op_sub (pv 8) pe_int) (fun _ _ => rfl)) (pv 2) (nomark _)))))
        (pss_cons (ps_aug (i := 8) scBehind.nd rfl (.inl rfl) pe_int ip_sub)
        (pss_cons (ps_set (i := 7) scBehind.nd rfl (.inl rfl) (pe_cf GM hr (pa_cons (pv 7) (pa_cons (pe_cf GO hr (pa_cons (pv 3) (pa_cons (pe_cf GW hr (pa_cons (pe_op op_sub (pv 5) (pv 8)) pa_nil)) pa_nil))) pa_nil))))
        (pss_one (ps_set (i := 6) scBehind.nd rfl (.inl rfl) (pe_cf GA hr (pa_cons (pv 6) (pa_cons (pe_cf GM hr (pa_cons (pe_ix ix_list (pv 0) (pv 8) (fun _ _ => rfl)) (pa_cons (pv 7) pa_nil))) pa_nil))))))))
      (pss_one (ps_expr (pe_bm PySem.F.plainAttrs_list PySem.F.slot_list_append PySem.F.type_list_append mt_append (pv 4) (pa_cons (pv 6) pa_nil)))))))
      (pss_one (ps_ret (pv 4)))), ?_⟩
    refine ⟨Nat.zero_le _, fun fr hfr => ?_⟩
    have s0 := same_upd (o := .lst []) hfr
    have hxl : xs.length = wd.length + 1 := by rw [hx.length, List.length_map, valsF_len]
    refine ⟨.ref l, rfl, l, xs, rfl, .inl (s0.seq hl), _, rfl, by omega, by omega, ?_⟩
    rw [hxl, Int.toNat_natCast]
    refine for_it walk_range (fun i σ H' => ∃ zs c5 c6 c7 c8, σ = [some (.ref l), some (.ref aw), some (.int p), some u, some (.ref fr), c5, c6, c7, c8] ∧ H' fr = some (.lst zs) ∧ Same H H' ∧ DpAll K H' zs (((valsF (Lk.E p x F) wd).take i).map dF))
      ⟨[], none, none, none, none, rfl, upd_same, s0, .nil⟩ (fun _ _ _ _ _ => True.intro) ?_ ?_
    · rintro i y σ H3 H2 hi ⟨zs, c5, c6, c7, c8, rfl, h1, h2, h3⟩ ⟨rfl, rfl⟩
      have hiw : i ≤ wd.length := by omega
      have hzl : zs.length = i := by rw [h3.length, List.length_map, List.length_take, valsF_len]; omega
      obtain ⟨tv, ht1, ht2⟩ := hx.get (i := i) (d := dF (F (wd.take i).reverse)) (by rw [List.getElem?_map, valsF_get F wd hiw]; rfl)
      have hB' : ∀ k, k ≤ wd.length → In (144 ^ k) M (F (wd.take k).reverse) := fun k hk => by
        have := hB _ (rev_suffix wd k)
        rw [List.length_reverse, List.length_take, Nat.min_eq_left hk] at this
        exact this
      refine ⟨_, rfl, _, rfl, l, xs, _, _, rfl, rfl, h2.seq hl, at_of (by omega) ht1, _, rfl, _, _, _, rfl, ?_⟩
      refine while_by (fun σ H' => ∃ (here : Nat) (total term : Rat) (tv mv : V), σ = [some (.ref l), some (.ref aw), some (.int p), some u, some (.ref fr), some (.int (i : Nat)), some tv, some mv, some (.int (here : Nat))] ∧ here ≤ i ∧ Same H2 H' ∧ Dp K H' tv (dF total) ∧ Dp K H' mv (dF term) ∧
          In (144 ^ (i - here)) (576 ^ (i - here)) term ∧ In (144 ^ i) (M * ((i - here + 1) * 576 ^ (i - here))) total ∧ total + Lk.go p x F (i - here + 1) term (wd.take here).reverse = Lk.E p x F (wd.take i).reverse)
        (fun σ _ => match σ with | [_, _, _, _, _, _, _, _, some (.int b)] => b.toNat | _ => 0) ⟨i, _, 1, tv, .ref a1, ?_, Nat.le_refl _, Same.refl _, ht2.same h2, Dp.mkF (x := 1) (hone _), ?_, ?_, ?_⟩ ?_ ?_
      · show [some (V.ref l), some (V.ref aw), some (V.int p), some u, some (V.ref fr), some (V.int (0 + (i : Int))), some tv, some (V.ref a1), some (V.int (0 + (i : Int)))] = _
        rw [Int.zero_add]
      · rw [Nat.sub_self]; exact In.one
      · rw [Nat.sub_self]
        exact (hB' i hiw).mono (by simp)
      · rw [Nat.sub_self]; rfl
      · rintro σ H4 ⟨here, total, term, tv, mv, rfl, hh, s4, hd1, hd2, hi1, hi2, he⟩
        -- the append
        have fin : Lk.E p x F (wd.take i).reverse = total → tDrop (tBM K "list" rAppend (tVar 4) (tCons (tVar 6) tNil))
            { nx := fun σ H' => ∃ zs c5 c6 c7 c8, σ = [some (.ref l), some (.ref aw), some (.int p), some u, some (.ref fr), c5, c6, c7, c8] ∧ H' fr = some (.lst zs) ∧ Same H H' ∧ DpAll K H' zs (((valsF (Lk.E p x F) wd).take (i + 1)).map dF), rt := Q }
            [some (.ref l), some (.ref aw), some (.int p), some u, some (.ref fr), some (.int (i : Nat)), some tv, some mv, some (.int (here : Nat))] H4 := by
          intro e
          have k1 := s4 _ _ h1
          refine ⟨_, rfl, .inl ⟨rfl, _, SqL.of k1⟩, _, rfl, fr, zs, tv, rfl, rfl, k1, small1000 (by omega), ?_⟩
          refine ⟨_, _, _, _, _, rfl, upd_same, (h2.trans s4).put hfr, ?_⟩
          rw [List.take_add_one, valsF_get _ wd hiw, e, List.map_append]
          exact ((h3.same s4).snoc hd1).tk (by intro d hd; rcases List.mem_append.mp hd with hd | hd; exact nol_Fs _ d hd; exact nol_Fs [total] d hd) (tk_updL k1)
        refine ⟨_, rfl, _, _, rfl, rfl, _, rfl, ?_⟩
        cases here with
        | zero =>
          refine ifF (decide_eq_false (by omega)) ?_
          refine ifF rfl ?_
          refine fin ?_
          rw [← he]
          simp only [List.take_zero, List.reverse_nil, Lk.go]
          grind
        | succ here =>
          refine ifT (decide_eq_true (by omega)) ?_
          obtain ⟨c, hc⟩ : ∃ c, wd[here]? = some c := ⟨wd[here]'(by omega), by simp⟩
          have hcw : (wd.map V.int)[here]? = some (.int c) := by rw [List.getElem?_map, hc]; rfl
          rw [take_rev hc] at he
          refine ⟨_, rfl, _, rfl, _, _, rfl, rfl, aw, _, _, _, rfl, rfl, (Same.tk (h2.trans s4)) _ _ hw, at_of (j := here) (by omega) hcw, _, rfl, rfl, _, rfl, ?_⟩
          by_cases hcp : c = p
          · refine ifT (dVeq hcp) ?_
            subst hcp
            simp only [Lk.go, if_true] at he
            have hk1 : i - here = i - (here + 1) + 1 := by omega
            have ek : i - (here + 1) + 1 = i - here := by omega
            rw [ek] at he
            refine ⟨_, rfl, _, _, rfl, rfl, ?_⟩
            refine ⟨_, rfl, _, rfl, _, rfl, _, rfl, _, _, rfl, rfl, (i - here : Nat), ?_, fun H5 kv s5 hkv => ?_⟩
            · show [V.int (((i : Nat) : Int) - (((here + 1 : Nat) : Int) - 1))] = [V.int ((i - here : Nat) : Int)]
              congr 2
              omega
            have hxu := hu.same ((h2.trans s4).trans s5)
            refine ⟨u, kv, x, i - here, rfl, hxu, hkv, six_sz h6 (by have : 24 ≤ 2 ^ 900 := Nat.le_trans (show 24 ≤ 2 ^ 5 by decide) (two_lt (by decide)); exact this), by omega, by omega, fun H6 ov s6 hov => ?_⟩
            have hq : In 144 576 (x / ((i - here : Nat) : Rat)) := Lk.six_quot h6 (by omega) (by omega)
            refine ⟨mv, ov, term, x / ((i - here : Nat) : Rat), rfl, (hd2.same s5).same s6, hov, in_sz hi1 (p144 (by omega)).1 (p144 (by omega)).2 (p576 (by omega)), in_sz hq (by decide) (by have := (p144 (n := 1) (by decide)).2; omega) (by have := p576 (j := 1) (by decide); omega), fun H7 nv s7 hnv => ?_⟩
            have ht := step_term hi1 h6 (k := i - here) (by omega) (by omega)
            rw [ek] at ht
            obtain ⟨fv, hf1, hf2⟩ := hx.get (i := here) (d := dF (F (wd.take here).reverse)) (by rw [List.getElem?_map, valsF_get F wd (by omega)]; rfl)
            have s47 := ((h2.trans s4).trans s5).trans (s6.trans s7)
            refine ⟨_, rfl, _, rfl, _, rfl, l, xs, _, _, rfl, rfl, s47.seq hl, at_of (j := here) (by show ((here + 1 : Nat) : Int) - 1 = (here : Int); omega) hf1, _, rfl, fv, nv, _, _, rfl, hf2.same s47, hnv, in_sz (hB' here (by omega)) (p144 (by omega)).1 (p144 (by omega)).2 ?_, in_sz ht (p144 (by omega)).1 (p144 (by omega)).2 (p576 (by omega)), fun H8 pv' s8 hpv => ?_⟩
            · have h4 : 2 ^ 900 < 2 ^ 1000 := Nat.pow_lt_pow_right (by decide) (by decide)
              omega
            have hp1 := step_part (n := i) (hB' here (by omega)) ht (by omega)
            refine ⟨tv, pv', total, _, rfl, (((hd1.same s5).same s6).same s7).same s8, hpv, in_sz hi2 (p144 (by omega)).1 (p144 (by omega)).2 (tot_bound (by omega) hM), in_sz hp1 (p144 (by omega)).1 (p144 (by omega)).2 ?_, fun H9 sv s9 hsv => ?_⟩
            · refine Nat.lt_of_le_of_lt ?_ (tot_bound (M := M) (j := i - here) (by omega) hM)
              exact Nat.mul_le_mul_left _ (Nat.le_mul_of_pos_left _ (by omega))
            refine ⟨⟨here, _, _, sv, nv, ?_, by omega, ((((s4.trans s5).trans s6).trans s7).trans s8).trans s9, hsv, (hnv.same s8).same s9, ht, ?_, ?_⟩, ?_⟩
            · show [some (V.ref l), some (V.ref aw), some (V.int c), some u, some (V.ref fr), some (V.int (i : Nat)), some sv, some nv, some (V.int (((here + 1 : Nat) : Int) - 1))] = _
              rw [show ((here + 1 : Nat) : Int) - 1 = ((here : Nat) : Int) by omega]
            · have := step_tot (j := i - (here + 1)) hi2 (by rw [ek]; exact hp1)
              rw [ek] at this
              exact this
            · rw [← he]; grind
            · show ((((here + 1 : Nat) : Int) - 1)).toNat < (((here + 1 : Nat) : Int)).toNat
              omega
          · refine ifF (dVne hcp) ?_
            refine fin ?_
            rw [← he]
            simp only [Lk.go, if_neg hcp]
            grind
      · exact fun σ H' R R' hR h => mo_and (mo_test (mo_op mo_I0 (mo_var 8) (mo_c _))) (mo_test (mo_op mo_Eq (mo_op mo_IxT (mo_var 1) (mo_op mo_I0 (mo_var 8) (mo_c _))) (mo_var 2))) σ H' R R' hR h
    · rintro σ H2 ⟨zs, c5, c6, c7, c8, rfl, h1, h2, h3⟩
      rw [List.take_of_length_le (by rw [valsF_len]; exact Nat.le_refl _)] at h3
      exact ⟨_, rfl, q _ _ _ h2 h1 h3⟩
end
end L2

set_option Elab.async false
set_option linter.all false
set_option maxRecDepth 100000
set_option maxHeartbeats 4000000
namespace L2
open PySem PySem.Spec PyProof.Rows
open Lk (In Six Bd SixR Wt)
theorem valsF_eps (w : List Int) : valsF Lk.eps w = 1 :: List.replicate w.length 0 := by
  apply List.ext_getElem?
  intro i
  by_cases h : i ≤ w.length
  · rw [valsF_get _ _ h]
    cases i with
    | zero => simp [Lk.eps]
    | succ i =>
      rw [List.getElem?_cons_succ, List.getElem?_replicate, if_pos (by omega)]
      have hne : (w.take (i + 1)).reverse ≠ [] := by
        intro z
        have := congrArg List.length z
        simp at this
        subst this
        simp at h
      unfold Lk.eps
      rw [if_neg hne]
  · rw [List.getElem?_eq_none (by rw [valsF_len]; omega), List.getElem?_eq_none (by simp; omega)]
theorem DpAll.replicate {K : PySem.W.Frag} {H : Hp} {v : V} {d : PyData} (h : Dp K H v d) : ∀ n : Nat, DpAll K H (List.replicate n v) (List.replicate n d)
  | 0 => .nil
  | n + 1 => by rw [List.replicate_succ, List.replicate_succ]; exact .cons h (DpAll.replicate h n)
section
variable {P : Program} {w : World} {K : PySem.W.Frag} {mg : Str → Option Value} {base : Heap}
def spWorth (K : PySem.W.Frag) : Sp := fun vs H Q _ => ∃ v u r wd, vs = [v, u] ∧ Dp K H v (dR r) ∧ Dp K H u (dW wd) ∧ wd.length ≤ 4 ∧ SixR r ∧ r.length ≤ 20 ∧ Ret K H Q (dF (Lk.worth r wd))
abbrev sWorth : Stmt := topS 28
theorem scWorth : FnScope ["row", "word", "letters", "found", "part", "x"] ["row", "word"] (defScope sWorth) := ⟨rfl, rfl, rfl, by decide +kernel, rfl, by decide +kernel, by decide +kernel⟩
theorem ok_worth (D : Df K mg "word_worth" sWorth ["row", "word"]) (T : Tx K mg) (GT : Ok' P w K mg base "tuple_of" ["thing"] 4 (spTuple K 3)) (GT1 : Ok' P w K mg base "tuple_of" ["thing"] 4 (spTuple K 1)) (GB : Ok' P w K mg base "_behind" ["found", "letters", "part", "x"] 4 (spBehind K)) :
    Ok' P w K mg base "word_worth" ["row", "word"] 5 (spWorth K) := by
  refine D.ok scWorth (fun vs H Q E h => ?_) (fun f cdv A outer s H vs Q E hr h => ?_)
  · obtain ⟨v, u, r, wd, rfl, _⟩ := h; rfl
  · obtain ⟨v, u, r, wd, rfl, hv, hu, h4, h6, hl, q⟩ := h
    obtain ⟨a1, m1, hone⟩ := T.ONE
    obtain ⟨a0, m0, hzero⟩ := T.NONEp
    refine ⟨_, pss_cons (ps_set (i := 2) scWorth.nd rfl (.inl rfl) (pe_cf GT1 hr (pa_cons (pv 1) pa_nil)))
      (pss_cons (ps_set (i := 3) scWorth.nd rfl (.inl rfl) (pe_op op_cat (pe_lst (pa_cons (pe_glob (v := .ref a1) (by rfl) m1 rfl) pa_nil)) (pe_op op_rep (pe_lst (pa_cons (pe_glob (v := .ref a0) (by rfl) m0 rfl) pa_nil)) (pe_callB call_len_seq (by rfl) T.len PySem.boot_len (pa_cons (pv 2) pa_nil)))))
      (pss_cons (ps_for PassesOwn.never rfl (pi_tup (pe_cf GT hr (pa_cons (pv 0) pa_nil))) (pg_tup rfl (pgs_cons (pg_name (i := 4) scWorth.nd rfl (Or.inl rfl)) (pgs_cons (pg_name (i := 5) scWorth.nd rfl (Or.inl rfl)) pgs_nil)))
        (pss_one (ps_set (i := 3) scWorth.nd rfl (.inl rfl) (pe_cf GB hr (pa_cons (pv 3) (pa_cons (pv 2) (pa_cons (pv 4) (pa_cons (pv 5) pa_nil))))))))
      (pss_one (ps_ret (pe_ix ix_list (pv 3) (pe_un un_neg pe_int) (fun _ _ => rfl)))))), ?_⟩
    refine ⟨u, rfl, u, dW wd, rfl, hu, nln_W (by omega), fun H1 lw s1 hlw => ?_⟩
    obtain ⟨aw, rfl, hw⟩ := hlw.W
    refine ⟨by show 1 ≤ sizeLine; decide, fun L1 hL1 => ?_⟩
    have t1 := same_upd (o := .lst [.ref a1]) hL1
    refine ⟨by show 1 ≤ sizeLine; decide, fun L2' hL2 => ?_⟩
    have t2 := same_upd (o := .lst [.ref a0]) hL2
    refine ⟨_, rfl, aw, _, rfl, .inr (Same.tk (t1.trans t2) _ _ hw), ?_⟩
    refine ⟨L2', _, [.ref a0], rfl, rfl, upd_same, by rw [List.length_map]; omega, by rw [List.length_map]; omega, ?_, fun L3 hL3 => ?_⟩
    · rw [List.length_map, Int.toNat_natCast]
      exact Nat.le_trans (show _ ≤ 4 by simp; omega) (by decide)
    have t3 := same_upd (o := .lst (List.replicate ((wd.map V.int).length : Int).toNat [V.ref a0]).flatten) hL3
    have eL : (List.replicate ((wd.map V.int).length : Int).toNat [V.ref a0]).flatten = List.replicate wd.length (V.ref a0) := by
      rw [List.length_map, Int.toNat_natCast]
      induction wd.length with
      | zero => rfl
      | succ n ih => rw [List.replicate_succ, List.flatten_cons, ih]; rfl
    refine ⟨L1, L3, [.ref a1], _, rfl, rfl, (t2.trans t3) _ _ upd_same, upd_same, ?_, fun L4 hL4 => ?_⟩
    · rw [eL]
      exact Nat.le_trans (show _ ≤ 5 by simp; omega) (by decide)
    have t4 := same_upd (o := .lst ([.ref a1] ++ (List.replicate ((wd.map V.int).length : Int).toNat [V.ref a0]).flatten)) hL4
    have s4 := s1.trans (((t1.trans t2).trans t3).trans t4)
    have t14 := ((t1.trans t2).trans t3).trans t4
    rw [eL] at s4 t14 ⊢
    refine ⟨v, rfl, v, dR r, rfl, hv.same s4, nln_R (by omega), fun H5 rv s5 hrv => ?_⟩
    obtain ⟨ar, ys, rfl, hs, ha⟩ := hrv.R
    have hlen : ys.length = r.length := by rw [ha.length, List.length_map]
    have s05 := s4.trans s5
    refine ⟨ar, rfl, ⟨_, hs⟩, ?_⟩
    refine for_it (walk_tup (K := K) (xs := ys)) (fun i σ H' => ∃ l xs c4 c5, σ = [some v, some u, some (.ref aw), some (.ref l), c4, c5] ∧ H' l = some (.lst xs) ∧ Same H H' ∧ Same H5 H' ∧ DpAll K H' xs ((valsF (Lk.on (r.take i) Lk.eps) wd).map dF))
      ⟨L4, _, none, none, rfl, s5 _ _ upd_same, s05, Same.refl _, ?_⟩ (fun i σ H' _ hp => by obtain ⟨_, _, _, _, _, _, _, h3, _⟩ := hp; exact Same.tk h3 _ _ hs) ?_ ?_
    · rw [List.take_zero, Lk.on_nil, valsF_eps, List.map_cons, List.map_replicate]
      exact DpAll.cons (Dp.mkF (x := 1) (hone _)) (DpAll.replicate (Dp.mkF (x := 0) (hzero _)) _)
    · rintro i x σ H2 H3 hi ⟨l, xs, c4, c5, rfl, h1, h2, h3, h4'⟩ ⟨rfl, hx⟩
      obtain ⟨d, e1, e2⟩ := ha.at hx
      rw [List.getElem?_map] at e1
      cases er : r[i]? with
      | none => rw [er] at e1; cases e1
      | some pr =>
        rw [er] at e1; cases e1
        obtain ⟨p, x⟩ := pr
        obtain ⟨b, fv, rfl, hb, hf⟩ := (e2.same h3).P
        refine ⟨b, _, rfl, hb, rfl, _, _, rfl, _, _, rfl, rfl, ?_⟩
        have hBd : Bd (1 * 2 ^ (40 * (r.take i).length)) (Lk.on (r.take i) Lk.eps) wd.reverse := Bd.on (by simpa using h4) (r.take i) Lk.eps 1 (fun a ha' => h6 a (List.mem_of_mem_take ha')) (Bd.eps _)
        refine ⟨_, rfl, _, rfl, _, rfl, _, rfl, l, .ref aw, p, fv, x, xs, _, wd, _, rfl, SqL.of h1, h4', hlw.same ((t14.trans s5).trans h3), hf, h4, h6 (p, x) (List.mem_of_getElem? er), hBd, ?_, fun H6 l' zs s6 hl' hz => ?_⟩
        · rw [Nat.one_mul]
          exact two_lt (by simp; omega)
        · refine ⟨l', zs, _, _, rfl, hl', h2.trans s6, h3.trans s6, ?_⟩
          rw [List.take_add_one, er, show (r.take i ++ (some (p, x)).toList) = r.take i ++ [(p, x)] from rfl, Lk.on_snoc]
          exact hz
    · rintro σ H2 ⟨l, xs, c4, c5, rfl, h1, h2, h3, h4'⟩
      rw [hlen, List.take_length] at h4'
      have hxl : xs.length = wd.length + 1 := by rw [h4'.length, List.length_map, valsF_len]
      obtain ⟨lv, g1, g2⟩ := h4'.get (i := wd.length) (d := dF (Lk.worth r wd)) (by rw [List.getElem?_map, valsF_get _ _ (Nat.le_refl _), List.take_length]; rfl)
      exact ⟨_, rfl, _, rfl, l, xs, _, _, rfl, rfl, SqL.of h1, atI_m1 hxl g1, q _ _ h2 g2⟩
/-! ## marks_of -/
def spLyn (K : PySem.W.Frag) : Sp := fun vs H Q _ => ∃ wide n : Nat, vs = [.int (wide : Int), .int (n : Int)] ∧ (wide = 2 ∨ wide = 3) ∧ 1 ≤ n ∧ n ≤ 4 ∧ ∀ H' l xs, Same H H' → H' l = some (.lst xs) → DpAll K H' xs ((Lk.lynd wide n).map dW) → Q (.ref l) H'
def dFs (l : List Rat) : PyData := .tuple (l.map dF)
def spMarks (K : PySem.W.Frag) : Sp := fun vs H Q _ => ∃ v r, ∃ wide n : Nat, vs = [v, .int (wide : Int), .int (n : Int)] ∧ Dp K H v (dR r) ∧ (wide = 2 ∨ wide = 3) ∧ 1 ≤ n ∧ n ≤ 4 ∧ SixR r ∧ r.length ≤ 20 ∧ Ret K H Q (dFs ((Lk.lynd wide n).map (Lk.worth r)))
abbrev sMarks : Stmt := topS 30
theorem scMarks : FnScope ["row", "many", "power", "word"] ["row", "many", "power"] (defScope sMarks) := ⟨rfl, rfl, rfl, by decide +kernel, rfl, by decide +kernel, by decide +kernel⟩
theorem lynd_len : ∀ wide ∈ [2, 3], ∀ n ∈ [1, 2, 3, 4], (Lk.lynd wide n).length ≤ 1000 ∧ ∀ w ∈ Lk.lynd wide n, w.length ≤ 4 := by decide +kernel
theorem lynd_ok {wide n : Nat} (hw : wide = 2 ∨ wide = 3) (h1 : 1 ≤ n) (h4 : n ≤ 4) : (Lk.lynd wide n).length ≤ 1000 ∧ ∀ w ∈ Lk.lynd wide n, w.length ≤ 4 := by
  refine lynd_len wide ?_ n ?_
  · rcases hw with rfl | rfl <;> simp
  · simp; omega
theorem ok_marks (D : Df K mg "marks_of" sMarks ["row", "many", "power"]) (T : Tx K mg) (GL : Ok' P w K mg base "lyndon_words" ["many", "power"] 5 (spLyn K)) (GW : Ok' P w K mg base "word_worth" ["row", "word"] 5 (spWorth K)) :
    Ok' P w K mg base "marks_of" ["row", "many", "power"] 6 (spMarks K) := by
  refine D.ok scMarks (fun vs H Q E h => ?_) (fun f cdv A outer s H vs Q E hr h => ?_)
  · obtain ⟨v, r, wide, n, rfl, _⟩ := h; rfl
  · obtain ⟨v, r, wide, n, rfl, hv, hw, h1, h4, h6, hl, q⟩ := h
    refine ⟨_, pss_one (ps_ret (pe_callTy call_tuple_of (by rfl) T.tuple (by decide +kernel) (pa_cons (pe_lc (own := [("word", 3)]) (g := gName 3) (tt := tYes) rfl scMarks.nd (pi_list (pe_cf GL hr (pa_cons (pv 1) (pa_cons (pv 2) pa_nil)))) (blkOk_by (N := ["row", "many", "power", "word"]) (sc := defScope sMarks) (by decide +kernel))
        (fun _ _ _ _ _ => pg_name (i := 3) scMarks.nd rfl (Or.inl rfl)) (fun _ _ _ _ _ => pts_nil) (fun _ _ _ _ _ => pe_cf GW hr (pa_cons (pv 0) (pa_cons (pv 3) pa_nil)))) pa_nil))), ?_⟩
    refine ⟨_, rfl, _, rfl, wide, n, rfl, hw, h1, h4, fun H1 l xs s1 hl1 hx => ?_⟩
    refine ⟨l, rfl, ⟨_, SqL.of hl1⟩, fun D hD => ?_⟩
    obtain ⟨hL1, hL2⟩ := lynd_ok hw h1 h4
    have hlen : xs.length = (Lk.lynd wide n).length := by rw [hx.length, List.length_map]
    refine lc_map (K := K) (walk_list (K := K) (a := l) (xs := xs)) (((Lk.lynd wide n).map (Lk.worth r)).map dF) (by rw [List.length_map, List.length_map]; exact hlen.symm) (by rw [hlen]; exact hL1) (nol_Fs _) hD (fun H' s' => SqL.of (s' _ _ hl1)) yat_same ?_ gName_mono ?_
    · rintro i x H2 H3 d R ed s2 ⟨rfl, hx2⟩ hR
      obtain ⟨d', e1, e2⟩ := hx.at hx2
      rw [List.getElem?_map] at e1
      rw [List.getElem?_map, List.getElem?_map] at ed
      cases hi : (Lk.lynd wide n)[i]? with
      | none => rw [hi] at e1; cases e1
      | some wd =>
        rw [hi] at e1 ed
        cases e1; cases ed
        exact ⟨rfl, v, rfl, x, rfl, v, x, r, wd, rfl, hv.same (s1.trans s2), e2.same s2, hL2 wd (List.mem_of_getElem? hi), h6, hl, hR⟩
    · intro H2 ys s2 h1 h2
      exact ⟨D, ys, rfl, .inl ⟨SqL.of h1, fun l hl => q _ _ ((s1.trans s2).new hl) (.tup (SqT.of upd_same) (h2.same (same_upd hl)))⟩⟩
end
end L2

set_option Elab.async false
set_option linter.all false
set_option maxRecDepth 100000
set_option maxHeartbeats 4000000
namespace L2
open PySem PySem.Spec PyProof.Rows
open Lk (In Six Bd SixR Wt)
/-! ## the urn -/
def UrnAt (H : Hp) (u : Addr) (m : Nat) : Prop := ∃ a b c : Int, H u = some (.lst [.int a, .int b, .int c]) ∧ 0 ≤ a ∧ 0 ≤ b ∧ b < 2 ^ 62 ∧ 0 ≤ c ∧ c ≤ m
/-- all but u as it was -/
def Ur (u : Addr) (H H' : Hp) : Prop := ∀ b o, b ≠ u → H b = some o → H' b = some o
theorem Ur.refl {u : Addr} {H : Hp} : Ur u H H := fun _ _ _ h => h
theorem Ur.trans {u : Addr} {H1 H2 H3 : Hp} (a : Ur u H1 H2) (b : Ur u H2 H3) : Ur u H1 H3 := fun c o n h => b c o n (a c o n h)
theorem Same.ur {u : Addr} {H H' : Hp} (e : Same H H') : Ur u H H' := fun b o _ h => e b o h
theorem Ur.upd {u : Addr} {H : Hp} {o : HO} : Ur u H (upd H u o) := fun b x n h => by rw [upd_ne n]; exact h
theorem Ur.tk {K : PySem.W.Frag} {u : Addr} {H H' : Hp} {m : Nat} (e : Ur u H H') (hu : UrnAt H u m) : Tk K H H' := fun a xs q => by
  obtain ⟨_, _, _, hu, _⟩ := hu
  rcases q with (q | ⟨o, q⟩) | q
  · exact .inl (.inl (e _ _ (ne_of q hu (by intro z; cases z)) q))
  · exact .inl (.inr ⟨o, e _ _ (ne_of q hu (by intro z; cases z)) q⟩)
  · exact .inr q
theorem Ur.from {u : Addr} {H0 H H' : Hp} {o : HO} (e : Ur u H H') (s : Same H0 H) (hu : H0 u = none) : Same H0 H' := fun b x q => e b x (ne_of_none q hu) (s b x q)
/-- what a def hands back that draws from the urn -/
def RetU (K : PySem.W.Frag) (u : Addr) (m : Nat) (H : Hp) (Q : VK) (d : PyData) : Prop := ∀ H' v, Ur u H H' → UrnAt H' u m → Dp K H' v d → Q v H'
section
variable {P : Program} {w : World} {K : PySem.W.Frag} {mg : Str → Option Value} {base : Heap}
def spTake (K : PySem.W.Frag) : Sp := fun vs H Q _ => ∃ u low m, vs = [.ref u, .int low] ∧ 0 < low ∧ low ≤ 1000 ∧ UrnAt H u m ∧ m ≤ 1000 ∧ ∀ d : Nat, (d : Int) < low → RetU K u (m + 1) H Q (.int d)
abbrev sTake : Stmt := topS 33
theorem scTake : FnScope ["_law_urn", "_law_low_so", "_law_drawn", "_law_once", "_law_far", "_law_twice"] ["_law_urn", "_law_low_so"] (defScope sTake) := ⟨rfl, rfl, rfl, by decide +kernel, rfl, by decide +kernel, by decide +kernel⟩
theorem mod_nat {a low : Int} (h : 0 < low) : ∃ d : Nat, a % low = (d : Int) ∧ (d : Int) < low := ⟨(a % low).toNat, by have := Int.emod_nonneg a (Int.ne_of_gt h); omega, by have := Int.emod_lt_of_pos a h; omega⟩
theorem ok_take (D : Df K mg "_law_take" sTake ["_law_urn", "_law_low_so"]) (T : Tx K mg) : Ok' P w K mg base "_law_take" ["_law_urn", "_law_low_so"] 1 (spTake K) := by
  refine D.ok scTake (fun vs H Q E h => ?_) (fun f cdv A outer s H vs Q E hr h => ?_)
  · obtain ⟨u, low, m, rfl, _⟩ := h; rfl
  · obtain ⟨u, low, m, rfl, hl, hl2, ⟨a, b, c, hu, ha, hb, hb2, hc, hc2⟩, hm, q⟩ := h
    refine ⟨_, pss_cons (ps_if (pt_cmpR op_gt (pe_ix ix_list (pv 0) pe_int (fun _ _ => rfl)) pe_int (nomark _))
        (pss_cons (ps_set (i := 2) scTake.nd rfl (.inl rfl) (pe_op op_mod (pe_callTy call_int1 (by rfl) T.int (by decide +kernel) (pa_cons (pe_ix ix_list (pv 0) pe_int (fun _ _ => rfl)) pa_nil)) (pv 1)))
        (pss_cons (ps_asg (pe_op op_fdiv (pe_ix ix_list (pv 0) pe_int (fun _ _ => rfl)) (pv 1)) (pg_sub (pv 0) pe_int set_list)) (pss_one (ps_ret (pv 2))))) pss_nil)
      (pss_cons (ps_asg (pe_op op_add (pe_ix ix_list (pv 0) pe_int (fun _ _ => rfl)) pe_int) (pg_sub (pv 0) pe_int set_list))
      (pss_cons (ps_set (i := 3) scTake.nd rfl (.inl rfl) (pe_op op_mod (pe_callTy call_int1 (by rfl) T.int (by decide +kernel) (pa_cons (pe_op op_mul (pe_op op_add (pe_ix ix_list (pv 0) pe_int (fun _ _ => rfl)) (pe_op op_mul pe_int (pe_ix ix_list (pv 0) pe_int (fun _ _ => rfl)))) (pe_op op_add pe_int (pe_ix ix_list (pv 0) pe_int (fun _ _ => rfl)))) pa_nil)) pe_int))
      (pss_cons (ps_set (i := 4) scTake.nd rfl (.inl rfl) (pe_op op_add (pe_op op_mod (pe_callTy call_int1 (by rfl) T.int (by decide +kernel) (pa_cons (pv 3) pa_nil)) pe_int) pe_int))
      (pss_cons (ps_set (i := 5) scTake.nd rfl (.inl rfl) (pe_op op_mod (pe_callTy call_int1 (by rfl) T.int (by decide +kernel) (pa_cons (pe_op op_mul (pe_op op_add (pe_op op_add (pv 3) (pe_ix ix_list (pv 0) pe_int (fun _ _ => rfl))) (pe_op op_fdiv (pe_ix ix_list (pv 0) pe_int (fun _ _ => rfl)) pe_int)) (pv 4)) pa_nil)) pe_int))
      (pss_one (ps_ret (pe_op op_mod (pe_callTy call_int1 (by rfl) T.int (by decide +kernel) (pa_cons (pe_op op_fdiv (pe_op op_mod (pe_callTy call_int1 (by rfl) T.int (by decide +kernel) (pa_cons (pe_op op_add (pe_op op_mul (pv 5) pe_int) (pv 3)) pa_nil)) pe_int) pe_int) pa_nil)) (pv 1)))))))), ?_⟩
    refine ⟨_, rfl, u, _, _, _, rfl, rfl, SqL.of hu, rfl, _, _, rfl, rfl, _, rfl, ?_⟩
    by_cases h0 : 0 < a
    · refine ifT (decide_eq_true h0) ?_
      refine ⟨_, rfl, u, _, _, _, rfl, rfl, SqL.of hu, rfl, .inl ⟨_, rfl, ?_⟩⟩
      refine ⟨_, rfl, _, _, rfl, rfl, hl, ?_⟩
      refine ⟨_, rfl, u, _, _, _, rfl, rfl, SqL.of hu, rfl, _, rfl, _, _, rfl, rfl, ⟨hl, by omega⟩, ?_⟩
      refine ⟨_, rfl, u, _, _, _, rfl, rfl, hu, rfl, ?_⟩
      obtain ⟨d, e1, e2⟩ := mod_nat (a := a) hl
      have k := q d e2 (upd H u (.lst [.int (a / low), .int b, .int c])) _ Ur.upd ⟨a / low, b, c, upd_same, Int.ediv_nonneg ha (by omega), hb, hb2, hc, by omega⟩ (.int _)
      rw [← e1] at k
      exact ⟨_, rfl, k⟩
    · refine ifF (decide_eq_false h0) ?_
      refine ⟨_, rfl, u, _, _, _, rfl, rfl, SqL.of hu, rfl, _, _, rfl, rfl, ?_⟩
      refine ⟨_, rfl, u, _, _, _, rfl, rfl, hu, rfl, ?_⟩
      have hu2 : upd H u (.lst [.int a, .int b, .int (c + 1)]) u = some (.lst [.int a, .int b, .int (c + 1)]) := upd_same
      refine ⟨_, rfl, u, _, _, _, rfl, rfl, SqL.of hu2, rfl, _, rfl, u, _, _, _, rfl, rfl, SqL.of hu2, rfl, _, _, rfl, rfl, .inl (by decide), _, _, rfl, rfl, ?_⟩
      refine ⟨_, rfl, u, _, _, _, rfl, rfl, SqL.of hu2, rfl, _, _, rfl, rfl, _, _, rfl, rfl, .inr (by omega), .inl ⟨_, rfl, ?_⟩⟩
      refine ⟨_, _, rfl, rfl, (by show (0 : Int) < 2147483647; decide), ?_⟩
      dsimp only
      generalize (b + 48271 * (c + 1)) * (39373 + (c + 1)) % 2147483647 = once
      refine ⟨_, rfl, .inl ⟨_, rfl, ?_⟩⟩
      refine ⟨_, _, rfl, rfl, (by show (0 : Int) < 40009; decide), _, _, rfl, rfl, ?_⟩
      refine ⟨_, rfl, _, rfl, u, _, _, _, rfl, rfl, SqL.of hu2, rfl, _, _, rfl, rfl, ?_⟩
      refine ⟨_, rfl, u, _, _, _, rfl, rfl, SqL.of hu2, rfl, _, _, rfl, rfl, ⟨by decide, by decide⟩, _, _, rfl, rfl, ?_⟩
      have h1 := Int.emod_nonneg once (b := 40009) (by decide)
      have h2 := Int.emod_lt_of_pos once (b := 40009) (by decide)
      refine ⟨_, rfl, _, _, rfl, rfl, .inr (by omega), .inl ⟨_, rfl, ?_⟩⟩
      refine ⟨_, _, rfl, rfl, (by show (0 : Int) < 2147483629; decide), ?_⟩
      dsimp only
      generalize (once + (c + 1) + b / 1000003) * (once % 40009 + 7) % 2147483629 = twice
      refine ⟨_, rfl, _, _, rfl, rfl, .inr (by decide), _, rfl, _, _, rfl, rfl, .inl ⟨_, rfl, ?_⟩⟩
      refine ⟨_, _, rfl, rfl, (by show (0 : Int) < 2147483587; decide), _, _, rfl, rfl, ⟨by decide, by decide⟩, .inl ⟨_, rfl, ?_⟩⟩
      refine ⟨_, rfl, _, _, rfl, rfl, hl, ?_⟩
      obtain ⟨d, e1, e2⟩ := mod_nat (a := (twice * 48271 + once) % 2147483587 / 64) hl
      have k := q d e2 (upd H u (.lst [.int a, .int b, .int (c + 1)])) _ Ur.upd ⟨a, b, c + 1, hu2, ha, hb, hb2, by omega, by omega⟩ (.int _)
      rw [← e1] at k
      exact k
end
end L2

set_option Elab.async false
set_option linter.all false
set_option maxRecDepth 100000
set_option maxHeartbeats 4000000
namespace L2
open PySem PySem.Spec PyProof.Rows
open Lk (Six Bd SixR Wt Below)
/-! ## drawn FRACTIONS -/
theorem mk_dF {t : Int} {n : Nat} (hn : n ≠ 0) (hg : Nat.gcd t.natAbs n = 1) : dF (mkRat t n) = .tuple [.int t, .int (n : Int)] := by
  unfold dF
  rw [mk_num t hn, mk_den t hn, hg]
  simp
theorem mk_in {t : Int} {n c : Nat} (h : n * c = 6) : Lk.In 6 (t.natAbs * c) (mkRat t n) := by
  refine ⟨t * (c : Int), ?_, by rw [Int.natAbs_mul, Int.natAbs_natCast]; exact Nat.le_refl _⟩
  have hn : (n : Rat) ≠ 0 := by
    intro z
    have : n = 0 := by exact_mod_cast z
    subst this
    simp at h
  rw [← h, Rat.mkRat_eq_div, Rat.natCast_mul, Rat.intCast_mul]
  have e : (((c : Nat) : Int) : Rat) = ((c : Nat) : Rat) := rfl
  rw [e]
  grind
def menu : List (Int × Nat) := [(1, 1), (-1, 1), (1, 2), (-1, 2), (2, 1), (1, 3), (-2, 1), (1, 1), (-1, 1), (0, 1)]
def dM (a : Int × Nat) : PyData := .tuple [.int a.1, .int (a.2 : Int)]
theorem menu_ok : ∀ a ∈ menu, dM a = dF (mkRat a.1 a.2) ∧ Lk.In 6 12 (mkRat a.1 a.2) := by
  intro a ha
  have key : ∀ a ∈ menu, a.2 ≠ 0 ∧ Nat.gcd a.1.natAbs a.2 = 1 ∧ ∃ c, c ≤ 6 ∧ a.2 * c = 6 ∧ a.1.natAbs * c ≤ 12 := by
    intro a ha
    simp only [menu, List.mem_cons, List.not_mem_nil, or_false] at ha
    rcases ha with rfl | rfl | rfl | rfl | rfl | rfl | rfl | rfl | rfl | rfl
    · exact ⟨by decide, by decide, 6, by decide, by decide, by decide⟩
    · exact ⟨by decide, by decide, 6, by decide, by decide, by decide⟩
    · exact ⟨by decide, by decide, 3, by decide, by decide, by decide⟩
    · exact ⟨by decide, by decide, 3, by decide, by decide, by decide⟩
    · exact ⟨by decide, by decide, 6, by decide, by decide, by decide⟩
    · exact ⟨by decide, by decide, 2, by decide, by decide, by decide⟩
    · exact ⟨by decide, by decide, 6, by decide, by decide, by decide⟩
    · exact ⟨by decide, by decide, 6, by decide, by decide, by decide⟩
    · exact ⟨by decide, by decide, 6, by decide, by decide, by decide⟩
    · exact ⟨by decide, by decide, 6, by decide, by decide, by decide⟩
  obtain ⟨h1, h2, c, _, h3, h4⟩ := key a ha
  exact ⟨(mk_dF h1 h2).symm, (mk_in h3).mono h4⟩
section
variable {P : Program} {w : World} {K : PySem.W.Frag} {mg : Str → Option Value} {base : Heap}
theorem Dp.mkM {H : Hp} {a : Addr} {p : Int × Nat} (h : SqT K H a [.int p.1, .int (p.2 : Int)]) : Dp K H (.ref a) (dM p) := .tup h (.cons (.int _) (.cons (.int _) .nil))
theorem newM {H : Hp} {p : Addr} {a : Int × Nat} (h : H p = none) : Same H (upd H p (.tup [.int a.1, .int (a.2 : Int)])) ∧ Dp K (upd H p (.tup [.int a.1, .int (a.2 : Int)])) (.ref p) (dM a) :=
  ⟨same_upd h, Dp.mkM (SqT.of upd_same)⟩
theorem UrnAt.same {H H' : Hp} {u : Addr} {m : Nat} (h : UrnAt H u m) (e : Same H H') : UrnAt H' u m := by
  obtain ⟨a, b, c, h1, r⟩ := h
  exact ⟨a, b, c, e _ _ h1, r⟩
theorem UrnAt.mono {H : Hp} {u : Addr} {m n : Nat} (h : UrnAt H u m) (e : m ≤ n) : UrnAt H u n := by
  obtain ⟨a, b, c, h1, h2, h3, h4, h5, h6⟩ := h
  exact ⟨a, b, c, h1, h2, h3, h4, h5, by omega⟩
theorem UrnAt.put {H : Hp} {u D : Addr} {m : Nat} {o : HO} (h : UrnAt H u m) (hD : D ≠ u) : UrnAt (upd H D o) u m := by
  obtain ⟨a, b, c, h1, r⟩ := h
  exact ⟨a, b, c, by rw [upd_ne hD.symm]; exact h1, r⟩
theorem UrnAt.ne {H : Hp} {u D : Addr} {m : Nat} (h : UrnAt H u m) (hD : H D = none) : D ≠ u := by
  obtain ⟨a, b, c, h1, r⟩ := h
  exact (ne_of_none h1 hD).symm
def spMuch (K : PySem.W.Frag) : Sp := fun vs H Q _ => ∃ u m, vs = [.ref u] ∧ UrnAt H u m ∧ m ≤ 1000 ∧ ∀ x, Lk.In 6 12 x → RetU K u (m + 1) H Q (dF x)
abbrev sMuch : Stmt := topS 39
theorem scMuch : FnScope ["_law_urn"] ["_law_urn"] (defScope sMuch) := ⟨rfl, rfl, rfl, by decide +kernel, rfl, by decide +kernel, by decide +kernel⟩
theorem ok_much (D : Df K mg "_law_much" sMuch ["_law_urn"]) (GT : Ok' P w K mg base "_law_take" ["_law_urn", "_law_low_so"] 1 (spTake K)) : Ok' P w K mg base "_law_much" ["_law_urn"] 2 (spMuch K) := by
  refine D.ok scMuch (fun vs H Q E h => ?_) (fun f cdv A outer s H vs Q E hr h => ?_)
  · obtain ⟨u, m, rfl, _⟩ := h; rfl
  · obtain ⟨u, m, rfl, hu, hm, q⟩ := h
    refine ⟨_, pss_one (ps_ret (pe_ix ix_tup (pe_tup (pa_cons (pe_tup (pa_cons pe_int (pa_cons pe_int pa_nil))) (pa_cons (pe_tup (pa_cons (pe_un un_neg pe_int) (pa_cons pe_int pa_nil))) (pa_cons (pe_tup (pa_cons pe_int (pa_cons pe_int pa_nil))) (pa_cons (pe_tup (pa_cons (pe_un un_neg pe_int) (pa_cons pe_int pa_nil)))
      (pa_cons (pe_tup (pa_cons pe_int (pa_cons pe_int pa_nil))) (pa_cons (pe_tup (pa_cons pe_int (pa_cons pe_int pa_nil))) (pa_cons (pe_tup (pa_cons (pe_un un_neg pe_int) (pa_cons pe_int pa_nil))) (pa_cons (pe_tup (pa_cons pe_int (pa_cons pe_int pa_nil))) (pa_cons (pe_tup (pa_cons (pe_un un_neg pe_int) (pa_cons pe_int pa_nil))) (pa_cons (pe_tup (pa_cons pe_int (pa_cons pe_int pa_nil))) pa_nil)))))))))))
      (pe_cf GT hr (pa_cons (pv 0) (pa_cons pe_int pa_nil))) (fun _ _ => rfl))), ?_⟩
    have two : 2 ≤ sizeLine := by decide
    refine ⟨two, fun p0 h0 => ?_⟩
    obtain ⟨s0, d0⟩ := newM (K := K) (a := (1, 1)) h0
    refine ⟨_, rfl, two, fun p1 h1 => ?_⟩
    obtain ⟨s1, d1⟩ := newM (K := K) (a := ((-1), 1)) h1
    refine ⟨two, fun p2 h2 => ?_⟩
    obtain ⟨s2, d2⟩ := newM (K := K) (a := (1, 2)) h2
    refine ⟨_, rfl, two, fun p3 h3 => ?_⟩
    obtain ⟨s3, d3⟩ := newM (K := K) (a := ((-1), 2)) h3
    refine ⟨two, fun p4 h4 => ?_⟩
    obtain ⟨s4, d4⟩ := newM (K := K) (a := (2, 1)) h4
    refine ⟨two, fun p5 h5 => ?_⟩
    obtain ⟨s5, d5⟩ := newM (K := K) (a := (1, 3)) h5
    refine ⟨_, rfl, two, fun p6 h6 => ?_⟩
    obtain ⟨s6, d6⟩ := newM (K := K) (a := ((-2), 1)) h6
    refine ⟨two, fun p7 h7 => ?_⟩
    obtain ⟨s7, d7⟩ := newM (K := K) (a := (1, 1)) h7
    refine ⟨_, rfl, two, fun p8 h8 => ?_⟩
    obtain ⟨s8, d8⟩ := newM (K := K) (a := ((-1), 1)) h8
    refine ⟨two, fun p9 h9 => ?_⟩
    obtain ⟨s9, d9⟩ := newM (K := K) (a := (0, 1)) h9
    refine ⟨by show 10 ≤ sizeLine; decide, fun p10 h10 => ?_⟩
    have s10 := same_upd (o := .tup [.ref p0, .ref p1, .ref p2, .ref p3, .ref p4, .ref p5, .ref p6, .ref p7, .ref p8, .ref p9]) h10
    have t9 := s9.trans s10
    have t8 := s8.trans t9
    have t7 := s7.trans t8
    have t6 := s6.trans t7
    have t5 := s5.trans t6
    have t4 := s4.trans t5
    have t3 := s3.trans t4
    have t2 := s2.trans t3
    have t1 := s1.trans t2
    have t0 := s0.trans t1
    have all : DpAll K _ [.ref p0, .ref p1, .ref p2, .ref p3, .ref p4, .ref p5, .ref p6, .ref p7, .ref p8, .ref p9] (menu.map dM) :=
      .cons (d0.same t1) (.cons (d1.same t2) (.cons (d2.same t3) (.cons (d3.same t4) (.cons (d4.same t5) (.cons (d5.same t6) (.cons (d6.same t7) (.cons (d7.same t8) (.cons (d8.same t9) (.cons (d9.same s10) .nil)))))))))
    refine ⟨_, rfl, u, 10, m, rfl, by decide, by decide, hu.same t0, hm, fun d hd H' v ur un hv => ?_⟩
    cases hv
    have hd : d < 10 := by omega
    have tk := ur.tk (K := K) (hu.same t0)
    obtain ⟨a, ea⟩ : ∃ a, menu[d]? = some a := ⟨menu[d]'(by simp [menu]; omega), by simp⟩
    obtain ⟨v, g1, g2⟩ := all.get (i := d) (d := dM a) (by rw [List.getElem?_map, ea]; rfl)
    obtain ⟨k1, k2⟩ := menu_ok a (List.mem_of_getElem? ea)
    rw [k1] at g2
    refine ⟨p10, _, _, v, rfl, rfl, tk _ _ (SqT.of upd_same), atI_nat g1, ?_⟩
    exact q _ k2 _ _ ((Same.ur t0).trans ur) un (g2.tk (nol_F _) tk)
/-! ## a drawn row -/
def Dr (wide n : Nat) (r : Row) : Prop := r.length ≤ n ∧ Below wide r ∧ ∀ a ∈ r, Lk.In 6 12 a.2
def spFlows (K : PySem.W.Frag) : Sp := fun vs H Q _ => ∃ u, ∃ wide most m : Nat, vs = [.ref u, .int (wide : Int), .int (most : Int)] ∧ UrnAt H u m ∧ 1 ≤ wide ∧ wide ≤ 3 ∧ most ≤ 10 ∧ m + 30 ≤ 1000 ∧ ∀ r, Dr wide most r → RetU K u (m + 30) H Q (dR r)
abbrev sFlows : Stmt := topS 40
theorem scFlows : FnScope ["_law_urn", "_law_wide_so", "_law_most_so", "_law_k"] ["_law_urn", "_law_wide_so", "_law_most_so"] (defScope sFlows) := ⟨rfl, rfl, rfl, by decide +kernel, rfl, by decide +kernel, by decide +kernel⟩
theorem ok_flows (D : Df K mg "_law_flows" sFlows ["_law_urn", "_law_wide_so", "_law_most_so"]) (T : Tx K mg) (GT : Ok' P w K mg base "_law_take" ["_law_urn", "_law_low_so"] 2 (spTake K)) (GM : Ok' P w K mg base "_law_much" ["_law_urn"] 2 (spMuch K)) :
    Ok' P w K mg base "_law_flows" ["_law_urn", "_law_wide_so", "_law_most_so"] 3 (spFlows K) := by
  refine D.ok scFlows (fun vs H Q E h => ?_) (fun f cdv A outer s H vs Q E hr h => ?_)
  · obtain ⟨u, wide, most, m, rfl, _⟩ := h; rfl
  · obtain ⟨u, wide, most, m, rfl, hu, hw1, hw3, hmo, hm, q⟩ := h
    refine ⟨_, pss_one (ps_ret (pe_callTy call_tuple_of (by rfl) T.tuple (by decide +kernel) (pa_cons (pe_lc (own := [("_law_k", 3)]) (g := gName 3) (tt := tYes) rfl scFlows.nd (pi_range1 (by rfl) T.range (pa_cons (pe_cf GT hr (pa_cons (pv 0) (pa_cons (pe_op op_add (pv 2) pe_int) pa_nil))) pa_nil))
        (blkOk_by (N := ["_law_urn", "_law_wide_so", "_law_most_so", "_law_k"]) (sc := defScope sFlows) (by decide +kernel))
        (fun _ _ _ _ _ => pg_name (i := 3) scFlows.nd rfl (Or.inl rfl)) (fun _ _ _ _ _ => pts_nil) (fun _ _ _ _ _ => pe_tup (pa_cons (pe_cf GT hr (pa_cons (pv 0) (pa_cons (pv 1) pa_nil))) (pa_cons (pe_cf GM hr (pa_cons (pv 0) pa_nil)) pa_nil)))) pa_nil))), ?_⟩
    refine ⟨_, rfl, _, rfl, _, _, rfl, rfl, ?_⟩
    refine ⟨u, _, m, rfl, by omega, by omega, hu, by omega, fun d hd H1 v ur un hv => ?_⟩
    cases hv
    have hd : d ≤ most := by omega
    refine ⟨_, rfl, by omega, by omega, fun D hD => ?_⟩
    have hDu : D ≠ u := un.ne hD
    have hDH : H D = none := by
      cases e : H D with
      | none => rfl
      | some o => rw [ur D o hDu e] at hD; cases hD
    refine lc_it walk_range (fun i H' => ∃ ys r, H' D = some (.lst ys) ∧ Ur u H H' ∧ UrnAt H' u (m + 1 + 2 * i) ∧ DpAll K H' ys (r.map dP) ∧ r.length = i ∧ Dr wide most r ∧ i ≤ d)
      ⟨[], [], upd_same, ?_, un.put hDu, .nil, rfl, ⟨Nat.zero_le _, fun a ha => (nomatch ha), fun a ha => (nomatch ha)⟩, Nat.zero_le _⟩ (fun _ _ _ _ => True.intro) ?_ ?_
    · intro b o nb hb
      rw [upd_ne (ne_of_none hb hDH)]
      exact ur b o nb hb
    · rintro i x H2 H3 hi ⟨ys, r, h1, h2, h3, h4, h5, ⟨h6, h7, h8⟩, h9⟩ ⟨rfl, rfl⟩
      have hi : i < d := by omega
      refine ⟨rfl, _, rfl, _, rfl, u, _, _, rfl, by omega, by omega, h3, by omega, fun p hp H4 v4 ur4 un4 hv4 => ?_⟩
      cases hv4
      refine ⟨_, rfl, u, _, rfl, un4, by omega, fun x hx H5 v5 ur5 un5 hv5 => ?_⟩
      refine ⟨by show 2 ≤ sizeLine; decide, fun t ht => ?_⟩
      have e5 := (ur4.trans ur5) D _ hDu h1
      have e6 : upd H5 t (.tup [.int p, v5]) D = some (.lst ys) := by rw [upd_ne (ne_of_none e5 ht)]; exact e5
      have hyl : ys.length = i := by rw [h4.length, List.length_map]; exact h5
      refine ⟨ys, e6, small1000 (by omega), ys ++ [.ref t], r ++ [((p : Int), x)], upd_same, ?_, ?_, ?_, by simp [h5], ⟨by simp; omega, ?_, ?_⟩, hi⟩
      · intro b o nb hb
        rw [upd_ne (ne_of_none hb hDH)]
        have e := (ur4.trans ur5) b o nb (h2 b o nb hb)
        rw [upd_ne (ne_of_none e ht)]
        exact e
      · exact (un5.put (un5.ne ht)).put hDu |>.mono (by omega)
      · have k1 := h4.tk (nol_Ps _) (ur4.tk h3)
        have k2 := k1.tk (nol_Ps _) (ur5.tk un4)
        have k3 := (k2.same (same_upd (o := .tup [.int p, v5]) ht)).snoc (Dp.mkP (p := ((p : Int), x)) (SqT.of upd_same) (hv5.same (same_upd ht)))
        rw [List.map_append]
        exact k3.tk (by rw [← List.map_singleton, ← List.map_append]; exact nol_Ps _) (tk_updL e6)
      · intro a ha
        rcases List.mem_append.mp ha with ha | ha
        · exact h7 a ha
        · rw [List.mem_singleton] at ha; subst ha
          exact ⟨by show (0 : Int) ≤ (p : Int); omega, hp⟩
      · intro a ha
        rcases List.mem_append.mp ha with ha | ha
        · exact h8 a ha
        · rw [List.mem_singleton] at ha; subst ha
          exact hx
    · rintro H2 ⟨ys, r, h1, h2, h3, h4, h5, h6, h9⟩
      refine ⟨D, ys, rfl, .inl ⟨SqL.of h1, fun l hl => ?_⟩⟩
      refine q r h6 _ _ ?_ ((h3.put (h3.ne hl)).mono (by omega)) (.tup (SqT.of upd_same) (h4.same (same_upd hl)))
      exact h2.trans (Same.ur (same_upd hl))
end
end L2

set_option Elab.async false
set_option linter.all false
set_option maxRecDepth 100000
set_option maxHeartbeats 8000000
namespace L2
open PySem PySem.Spec PyProof.Rows
open Lk (Six Bd SixR Wt Below)
section
variable {P : Program} {w : World} {K : PySem.W.Frag} {mg : Str → Option Value} {base : Heap}
/-! ## a row near another one -/
def Dr2 (wide n : Nat) (r : Row) : Prop := r.length ≤ n ∧ Below wide r ∧ SixR r
theorem Dr.two {wide n m : Nat} {r : Row} (h : Dr wide n r) (hm : n ≤ m) : Dr2 wide m r := ⟨Nat.le_trans h.1 hm, h.2.1, fun a ha => (h.2.2 a ha).mono (by decide)⟩
theorem Dr2.parts {wide n : Nat} {r s : Row} (hs : s.length ≤ n) (h : ∀ a ∈ s, (0 ≤ a.1 ∧ a.1 < (wide : Int)) ∧ Six a.2) : Dr2 wide n s := ⟨hs, fun a ha => (h a ha).1, fun a ha => (h a ha).2⟩
theorem Dr.at {wide n : Nat} {r : Row} (h : Dr wide n r) : ∀ a ∈ r, (0 ≤ a.1 ∧ a.1 < (wide : Int)) ∧ Six a.2 := fun a ha => ⟨h.2.1 a ha, (h.2.2 a ha).mono (by decide)⟩
def spNear (K : PySem.W.Frag) : Sp := fun vs H Q _ => ∃ u v, ∃ wide n m : Nat, ∃ r : Row, vs = [.ref u, v, .int (wide : Int)] ∧ UrnAt H u m ∧ Dp K H v (dR r) ∧ Dr wide n r ∧ n ≤ 10 ∧ 1 ≤ wide ∧ wide ≤ 3 ∧ m + 4 ≤ 1000 ∧ ∀ o, Dr2 wide (n + 2) o → RetU K u (m + 4) H Q (dR o)
abbrev sNear : Stmt := topS 43
theorem scNear : FnScope ["_law_urn", "_law_flows_so", "_law_wide_so", "_law_spot", "_law_one_so", "_law_far", "_law_way_so", "_law_here_so", "_law_much_so", "_law_rest_so"] ["_law_urn", "_law_flows_so", "_law_wide_so"] (defScope sNear) := ⟨rfl, rfl, rfl, by decide +kernel, rfl, by decide +kernel, by decide +kernel⟩
theorem cut_toD {H : Hp} {Q : VK} {v : V} {ds : List PyData} (k : Nat) (hv : Dp K H v (.tuple ds)) (q : Ret K H Q (.tuple (ds.take k))) : rSlA K v none (some (k : Int)) H Q := cut_data hv (by rw [cut_to ds k]; exact q)
theorem cut_fromD {H : Hp} {Q : VK} {v : V} {ds : List PyData} (k : Nat) (hv : Dp K H v (.tuple ds)) (q : Ret K H Q (.tuple (ds.drop k))) : rSlA K v (some (k : Int)) none H Q := cut_data hv (by rw [cut_from ds k]; exact q)
/-- 0 - top, bottom -/
theorem neg_tup (x : Rat) : [V.int (0 - x.num), V.int (x.den : Int)] = [V.int (-x).num, V.int ((-x).den : Int)] := by
  rw [Int.zero_sub]; rfl
theorem newN {H : Hp} {p : Addr} {x : Rat} (h : H p = none) : Same H (upd H p (.tup [.int (0 - x.num), .int (x.den : Int)])) ∧ Dp K (upd H p (.tup [.int (0 - x.num), .int (x.den : Int)])) (.ref p) (dF (-x)) :=
  ⟨same_upd h, Dp.mkF (SqT.of (by rw [neg_tup]; exact upd_same))⟩
theorem newP {H : Hp} {p : Addr} {f : V} {a : Int} {x : Rat} (h : H p = none) (hf : Dp K H f (dF x)) : Same H (upd H p (.tup [.int a, f])) ∧ Dp K (upd H p (.tup [.int a, f])) (.ref p) (dP (a, x)) :=
  ⟨same_upd h, Dp.mkP (p := (a, x)) (SqT.of upd_same) (hf.same (same_upd h))⟩
theorem newT {H : Hp} {p : Addr} {vs : List V} {ds : List PyData} (h : H p = none) (hf : DpAll K H vs ds) : Same H (upd H p (.tup vs)) ∧ Dp K (upd H p (.tup vs)) (.ref p) (.tuple ds) :=
  ⟨same_upd h, .tup (SqT.of upd_same) (hf.same (same_upd h))⟩
theorem six_szs {x : Rat} {M : Nat} (h : Lk.In 6 M x) (hM : M ≤ 1000) : Sz x := six_sz h (Nat.le_trans hM (Nat.le_trans (show 1000 ≤ 2 ^ 10 by decide) (two_lt (by decide))))
theorem ok_near (D : Df K mg "_law_near" sNear ["_law_urn", "_law_flows_so", "_law_wide_so"]) (T : Tx K mg) (GT : Ok' P w K mg base "_law_take" ["_law_urn", "_law_low_so"] 2 (spTake K)) (GM : Ok' P w K mg base "_law_much" ["_law_urn"] 2 (spMuch K)) (GA : Ok' P w K mg base "_law_add" ["_law_own", "_law_far"] 2 (sp2 K fun x y => x + y)) :
    Ok' P w K mg base "_law_near" ["_law_urn", "_law_flows_so", "_law_wide_so"] 3 (spNear K) := by
  refine D.ok scNear (fun vs H Q E h => ?_) (fun f cdv A outer s H vs Q E hr h => ?_)
  · obtain ⟨u, v, wide, n, m, r, rfl, _⟩ := h; rfl
  · obtain ⟨u, v, wide, n, m, r, rfl, hu, hv, hd, hn, hw1, hw3, hm, q⟩ := h
    obtain ⟨ar, xs, rfl, hs, ha⟩ := hv.R
    have hxl : xs.length = r.length := by rw [ha.length, List.length_map]
    refine ⟨_, pss_cons (ps_par3 (i := 3) (j := 4) (l := 5) (by rfl) scNear.nd rfl rfl rfl (by decide) (by decide) (by decide) rfl rfl rfl (pa_cons (pe_cf GT hr (pa_cons (pv 0) (pa_cons (pe_op op_add (pe_callB call_len_seq (by rfl) T.len PySem.boot_len (pa_cons (pv 1) pa_nil)) pe_int) pa_nil))) (pa_cons (pe_cf GT hr (pa_cons (pv 0) (pa_cons (pv 2) pa_nil))) (pa_cons (pe_cf GM hr (pa_cons (pv 0) pa_nil)) pa_nil))) (by rfl))
      (pss_cons (ps_set (i := 6) scNear.nd rfl (.inl rfl) (pe_cf GT hr (pa_cons (pv 0) (pa_cons pe_int pa_nil))))
      (pss_cons (ps_if (pt_cmpR op_eq (pv 6) pe_int (nomark _)) (pss_one (ps_ret (pv 1))) pss_nil)
      (pss_cons (ps_if (pt_cmpR op_lt (pv 6) pe_int (nomark _)) (pss_one (ps_ret (pe_op op_catA (pe_op op_catA (pe_slice sl_tupA (pv 1) po_none (po_some (pv 3)))
          (pe_tup (pa_cons (pe_tup (pa_cons (pv 4) (pa_cons (pv 5) pa_nil))) (pa_cons (pe_tup (pa_cons (pv 4) (pa_cons (pe_tup (pa_cons (pe_op op_sub pe_int (pe_ix ix_tup (pv 5) pe_int (fun _ _ => rfl))) (pa_cons (pe_ix ix_tup (pv 5) pe_int (fun _ _ => rfl)) pa_nil))) pa_nil))) pa_nil)))) (pe_slice sl_tupA (pv 1) (po_some (pv 3)) po_none)))) pss_nil)
      (pss_cons (ps_if (PW.pt (pw_and (pt_cmpR op_eq (pv 6) pe_int (nomark _)) (pw_and1 (pt_cmpR op_lt (pv 3) (pe_callB call_len_seq (by rfl) T.len PySem.boot_len (pa_cons (pv 1) pa_nil)) (nomark _)))))
        (pss_cons (ps_asg (pe_ix ix_tup (pv 1) (pv 3) (fun _ _ => rfl)) (pg_tup rfl (pgs_cons (pg_name (i := 7) scNear.nd rfl (Or.inl rfl)) (pgs_cons (pg_name (i := 8) scNear.nd rfl (Or.inl rfl)) pgs_nil))))
        (pss_cons (ps_set (i := 9) scNear.nd rfl (.inl rfl) (pe_cf GA hr (pa_cons (pv 8) (pa_cons (pe_tup (pa_cons (pe_op op_sub pe_int (pe_ix ix_tup (pv 5) pe_int (fun _ _ => rfl))) (pa_cons (pe_ix ix_tup (pv 5) pe_int (fun _ _ => rfl)) pa_nil))) pa_nil))))
        (pss_one (ps_ret (pe_op op_catA (pe_op op_catA (pe_slice sl_tupA (pv 1) po_none (po_some (pv 3)))
          (pe_tup (pa_cons (pe_tup (pa_cons (pv 7) (pa_cons (pv 5) pa_nil))) (pa_cons (pe_tup (pa_cons (pv 4) (pa_cons (pe_tup (pa_cons pe_int (pa_cons pe_int pa_nil))) pa_nil))) (pa_cons (pe_tup (pa_cons (pv 7) (pa_cons (pv 9) pa_nil))) pa_nil))))) (pe_slice sl_tupA (pv 1) (po_some (pe_op op_add (pv 3) pe_int)) po_none)))))) pss_nil)
      (pss_cons (ps_if (pt_cmpR op_eq (pv 6) pe_int (nomark _)) (pss_one (ps_ret (pe_op op_catA (pe_op op_catA (pe_slice sl_tupA (pv 1) po_none (po_some (pv 3))) (pe_tup (pa_cons (pe_tup (pa_cons (pv 4) (pa_cons (pv 5) pa_nil))) pa_nil))) (pe_slice sl_tupA (pv 1) (po_some (pv 3)) po_none)))) pss_nil)
      (pss_one (ps_ret (pe_op op_catA (pe_revT (pe_slice sl_tupA (pv 1) po_none (po_some (pv 3)))) (pe_slice sl_tupA (pv 1) (po_some (pv 3)) po_none))))))))), ?_⟩
    have hrl := hd.1
    have two : 2 ≤ sizeLine := by decide
    -- the draws
    refine ⟨_, rfl, _, rfl, ar, xs, rfl, .inr hs, _, _, rfl, rfl, u, _, m, rfl, by omega, by omega, hu, by omega, fun spot hsp H1 v1 r1 u1 hv1 => ?_⟩
    cases hv1
    refine ⟨_, rfl, _, rfl, u, _, _, rfl, by omega, by omega, u1, by omega, fun one hone H2 v2 r2 u2 hv2 => ?_⟩
    cases hv2
    refine ⟨_, rfl, u, _, rfl, u2, by omega, fun x hx H3 fv r3 u3 hfv => ?_⟩
    refine ⟨_, _, _, rfl, ?_⟩
    refine ⟨_, rfl, u, _, _, rfl, by decide, by decide, u3, by omega, fun way hway H4 v4 r4 u4 hv4 => ?_⟩
    cases hv4
    have ur : Ur u H H4 := r1.trans (r2.trans (r3.trans r4))
    have tk := ur.tk (K := K) hu
    have hf4 := hfv.tk (nol_F x) (r4.tk u3)
    have hrow := hv.tk (nol_R r) tk
    obtain ⟨af, rfl, hf⟩ := hf4.F
    have hs4 := tk _ _ hs
    have hx6 : Six x := hx.mono (by decide)
    have hone' : (0 : Int) ≤ ((one : Nat) : Int) ∧ ((one : Nat) : Int) < (wide : Int) := ⟨by omega, hone⟩
    -- the end, from any heap behind
    have fin : ∀ (o : Row), Dr2 wide (n + 2) o → Ret K H4 Q (dR o) := fun o ho H' v' s' hv' => q o ho _ _ (ur.trans (Same.ur s')) ((u4.same s').mono (by omega)) hv'
    have mem_t : ∀ a ∈ r.take spot, (0 ≤ a.1 ∧ a.1 < (wide : Int)) ∧ Six a.2 := fun a h => hd.at a (List.mem_of_mem_take h)
    have mem_d : ∀ k, ∀ a ∈ r.drop k, (0 ≤ a.1 ∧ a.1 < (wide : Int)) ∧ Six a.2 := fun k a h => hd.at a (List.mem_of_mem_drop h)
    refine ⟨_, rfl, rfl, _, rfl, ?_⟩
    by_cases w0 : (way : Int) = 0
    · refine ifT (dVeq w0) ?_
      exact ⟨_, rfl, fin r (hd.two (by omega)) _ _ (Same.refl _) hrow⟩
    refine ifF (dVne w0) ?_
    refine ⟨_, rfl, _, _, rfl, rfl, _, rfl, ?_⟩
    by_cases w3 : (way : Int) < 3
    · refine ifT (decide_eq_true w3) ?_
      refine ⟨_, rfl, ?_⟩
      dsimp only [tNoPart]
      refine ⟨_, rfl, _, rfl, cut_toD spot hrow fun H5 v5 s5 h5 => ?_⟩
      rw [← List.map_take] at h5
      refine ⟨_, rfl, _, rfl, two, fun p1 g1 => ?_⟩
      refine ⟨_, rfl, _, rfl, af, _, _, _, rfl, rfl, Same.tk (s5.new g1) _ _ hf, rfl, _, _, rfl, rfl, _, rfl, af, _, _, _, rfl, rfl, Same.tk (s5.new g1) _ _ hf, rfl, two, fun p2 g2 => ?_⟩
      refine ⟨two, fun p3 g3 => ?_⟩
      refine ⟨two, fun p4 g4 => ?_⟩
      obtain ⟨e1, k1⟩ := newP (K := K) (a := (one : Int)) g1 (hf4.same s5)
      obtain ⟨e2, k2⟩ := newN (K := K) (x := x) g2
      obtain ⟨e3, k3⟩ := newP (K := K) (a := (one : Int)) g3 k2
      obtain ⟨e4, k4⟩ := newT (K := K) g4 (.cons (k1.same (e2.trans e3)) (.cons k3 .nil))
      have s9 := s5.trans (e1.trans (e2.trans (e3.trans e4)))
      have k4 : Dp K _ (.ref p4) (dR [((one : Int), x), ((one : Int), -x)]) := k4
      refine cat_data (h5.same (e1.trans (e2.trans (e3.trans e4)))) k4 (by simp; omega) fun H6 v6 s6 h6 => ?_
      rw [← List.map_append] at h6
      refine ⟨_, rfl, _, rfl, ?_⟩
      dsimp only [tNoPart]
      refine ⟨_, rfl, cut_fromD spot (hrow.same (s9.trans s6)) fun H7 v7 s7 h7 => ?_⟩
      rw [← List.map_drop] at h7
      refine cat_data (h6.same s7) h7 (by simp; omega) ?_
      rw [← List.map_append]
      refine Ret.from (fin _ (Dr2.parts (r := r) (by simp; omega) ?_)) ((s9.trans s6).trans s7)
      intro a ha'
      simp only [List.mem_append, List.mem_cons, List.not_mem_nil, or_false] at ha'
      rcases ha' with (ha' | rfl | rfl) | ha'
      · exact mem_t a ha'
      · exact ⟨hone', hx6⟩
      · exact ⟨hone', hx6.neg⟩
      · exact mem_d _ a ha'
    refine ifF (decide_eq_false w3) ?_
    refine ⟨_, rfl, rfl, _, rfl, ?_⟩
    have go4 : tIfS (tTest (tOp rEq (tVar 6) (tC (.int 4)))) (tRet (tOp (rCatA K) (tOp (rCatA K) (tSl (rSlA K) (tVar 1) tNoPart (tPart (tVar 3))) (tTup (tCons (tTup (tCons (tVar 4) (tCons (tVar 5) tNil))) tNil))) (tSl (rSlA K) (tVar 1) (tPart (tVar 3)) tNoPart))) tNext
        { nx := tRet (tOp (rCatA K) (tRevT K (tSl (rSlA K) (tVar 1) tNoPart (tPart (tVar 3)))) (tSl (rSlA K) (tVar 1) (tPart (tVar 3)) tNoPart)) { nx := fun _ H' => Q .non H', rt := Q }, rt := Q }
        [some (.ref u), some (.ref ar), some (.int (wide : Int)), some (.int (spot : Int)), some (.int (one : Int)), some (.ref af), some (.int (way : Int)), none, none, none] H4 := by
      refine ⟨_, rfl, rfl, _, rfl, ?_⟩
      by_cases w4 : (way : Int) = 4
      · refine ifT (dVeq w4) ?_
        refine ⟨_, rfl, ?_⟩
        dsimp only [tNoPart]
        refine ⟨_, rfl, _, rfl, cut_toD spot hrow fun H5 v5 s5 h5 => ?_⟩
        rw [← List.map_take] at h5
        refine ⟨_, rfl, _, rfl, two, fun p1 g1 => ?_⟩
        refine ⟨by show 1 ≤ sizeLine; decide, fun p4 g4 => ?_⟩
        obtain ⟨e1, k1⟩ := newP (K := K) (a := (one : Int)) g1 (hf4.same s5)
        obtain ⟨e4, k4⟩ := newT (K := K) g4 (.cons k1 .nil)
        have s9 := s5.trans (e1.trans e4)
        have k4 : Dp K _ (.ref p4) (dR [((one : Int), x)]) := k4
        refine cat_data (h5.same (e1.trans e4)) k4 (by simp; omega) fun H6 v6 s6 h6 => ?_
        rw [← List.map_append] at h6
        refine ⟨_, rfl, _, rfl, ?_⟩
        dsimp only [tNoPart]
        refine ⟨_, rfl, cut_fromD spot (hrow.same (s9.trans s6)) fun H7 v7 s7 h7 => ?_⟩
        rw [← List.map_drop] at h7
        refine cat_data (h6.same s7) h7 (by simp; omega) ?_
        rw [← List.map_append]
        refine Ret.from (fin _ (Dr2.parts (r := r) (by simp; omega) ?_)) ((s9.trans s6).trans s7)
        intro a ha'
        simp only [List.mem_append, List.mem_cons, List.not_mem_nil, or_false] at ha'
        rcases ha' with (ha' | rfl) | ha'
        · exact mem_t a ha'
        · exact ⟨hone', hx6⟩
        · exact mem_d _ a ha'
      · refine ifF (dVne w4) ?_
        refine ⟨_, rfl, ?_⟩
        dsimp only [tNoPart]
        refine ⟨_, rfl, _, rfl, cut_toD spot hrow fun H5 v5 s5 h5 => ?_⟩
        rw [← List.map_take] at h5
        obtain ⟨a5, x5, rfl, hs5, ha5⟩ := h5.tupI
        refine ⟨a5, x5, rfl, hs5, fun p5 g5 => ?_⟩
        have e5 := same_upd (o := .tup x5.reverse) g5
        have k5 : Dp K (upd H5 p5 (.tup x5.reverse)) (.ref p5) (.tuple ((r.take spot).reverse.map dP)) := .tup (SqT.of upd_same) (by rw [List.map_reverse]; exact ha5.reverse.same e5)
        refine ⟨_, rfl, _, rfl, ?_⟩
        dsimp only [tNoPart]
        refine ⟨_, rfl, cut_fromD spot (hrow.same (s5.trans e5)) fun H7 v7 s7 h7 => ?_⟩
        rw [← List.map_drop] at h7
        refine cat_data (k5.same s7) h7 (by simp; omega) ?_
        rw [← List.map_append]
        refine Ret.from (fin _ (Dr2.parts (r := r) (by simp; omega) ?_)) ((s5.trans e5).trans s7)
        intro a ha'
        simp only [List.mem_append, List.mem_reverse] at ha'
        rcases ha' with ha' | ha'
        · exact mem_t a ha'
        · exact mem_d _ a ha'
    by_cases w33 : (way : Int) = 3
    · refine ifT (dVeq w33) ?_
      refine ⟨_, rfl, _, rfl, ar, xs, rfl, .inr hs4, _, _, rfl, rfl, _, rfl, ?_⟩
      by_cases hsl : spot < r.length
      · refine ifT (decide_eq_true (by omega)) ?_
        obtain ⟨pr, epr⟩ : ∃ pr, r[spot]? = some pr := ⟨r[spot], by simp [hsl]⟩
        obtain ⟨y, z⟩ := pr
        have ha4 := ha.tk (nol_Ps r) tk
        obtain ⟨pv1, g0, k0⟩ := ha4.get (i := spot) (d := dP (y, z)) (by rw [List.getElem?_map, epr]; rfl)
        obtain ⟨b, zv, rfl, hb, hz⟩ := k0.P
        have hyz := hd.at (y, z) (List.mem_of_getElem? epr)
        refine ⟨_, rfl, _, rfl, ar, xs, _, _, rfl, rfl, hs4, atI_nat g0, ?_⟩
        refine ⟨b, _, rfl, hb, rfl, _, _, rfl, _, _, rfl, rfl, ?_⟩
        refine ⟨_, rfl, _, rfl, af, _, _, _, rfl, rfl, hf, rfl, _, _, rfl, rfl, _, rfl, af, _, _, _, rfl, rfl, hf, rfl, two, fun p2 g2 => ?_⟩
        obtain ⟨e2, k2⟩ := newN (K := K) (x := x) g2
        have hz12 : Lk.In 6 12 z := hd.2.2 (y, z) (List.mem_of_getElem? epr)
        refine ⟨zv, .ref p2, z, -x, rfl, hz.same e2, k2, six_szs hz12 (by decide), six_szs hx.neg (by decide), fun H5 rv s5 hrv => ?_⟩
        have h24 : Six (z + -x) := hz12.add hx.neg
        have s05 := e2.trans s5
        refine ⟨_, rfl, ?_⟩
        dsimp only [tNoPart]
        refine ⟨_, rfl, _, rfl, cut_toD spot (hrow.same s05) fun H6 v6 s6 h6 => ?_⟩
        rw [← List.map_take] at h6
        refine ⟨_, rfl, _, rfl, two, fun p1 g1 => ?_⟩
        refine ⟨_, rfl, two, fun p3 g3 => ?_⟩
        refine ⟨two, fun p4 g4 => ?_⟩
        refine ⟨_, rfl, _, rfl, two, fun p5 g5 => ?_⟩
        refine ⟨by show 3 ≤ sizeLine; decide, fun p6 g6 => ?_⟩
        have s06 := s05.trans s6
        obtain ⟨f1, j1⟩ := newP (K := K) (a := y) g1 (hf4.same s06)
        obtain ⟨f3, k3⟩ := newM (K := K) (a := (0, 1)) g3
        have e0 : dM (0, 1) = dF 0 := rfl
        rw [e0] at k3
        obtain ⟨f4, j4⟩ := newP (K := K) (a := (one : Int)) g4 k3
        obtain ⟨f5, j5⟩ := newP (K := K) (a := y) g5 (hrv.same (s6.trans (f1.trans (f3.trans f4))))
        obtain ⟨f6, j6⟩ := newT (K := K) g6 (.cons (j1.same (f3.trans (f4.trans f5))) (.cons (j4.same f5) (.cons j5 .nil)))
        have t5 := f5.trans f6
        have t4 := f4.trans t5
        have t3 := f3.trans t4
        have t1 := f1.trans t3
        have j6 : Dp K _ (.ref p6) (dR [(y, x), ((one : Int), 0), (y, z + -x)]) := j6
        refine cat_data (h6.same t1) j6 (by simp; omega) fun H7 v7 s7 h7 => ?_
        rw [← List.map_append] at h7
        refine ⟨_, rfl, _, rfl, _, _, rfl, rfl, ?_⟩
        dsimp only [tNoPart]
        refine ⟨((spot + 1 : Nat) : Int), rfl, cut_fromD (spot + 1) (hrow.same ((s06.trans t1).trans s7)) fun H8 v8 s8 h8 => ?_⟩
        rw [← List.map_drop] at h8
        refine cat_data (h7.same s8) h8 (by simp; omega) ?_
        rw [← List.map_append]
        refine Ret.from (fin _ (Dr2.parts (r := r) (by simp; omega) ?_)) (((s06.trans t1).trans s7).trans s8)
        intro a ha'
        simp only [List.mem_append, List.mem_cons, List.not_mem_nil, or_false] at ha'
        rcases ha' with (ha' | rfl | rfl | rfl) | ha'
        · exact mem_t a ha'
        · exact ⟨hyz.1, hx6⟩
        · exact ⟨hone', Lk.In.zero _ _⟩
        · exact ⟨hyz.1, h24⟩
        · exact mem_d _ a ha'
      · refine ifF (decide_eq_false (by omega)) ?_
        exact go4
    · refine ifF (dVne w33) ?_
      exact ifF rfl go4
end
end L2

set_option Elab.async false
set_option linter.all false
set_option maxRecDepth 100000
set_option maxHeartbeats 8000000
namespace L2
open PySem PySem.Spec PyProof.Rows
open Lk (Six Bd SixR Wt Below)
section
variable {P : Program} {w : World} {K : PySem.W.Frag} {mg : Str → Option Value} {base : Heap}
/-! ## the script -/
def spCells (K : PySem.W.Frag) : Sp := fun vs H Q _ => ∃ a, ∃ ns : List Int, vs = [.ref a, .int 1] ∧ SqL K H a (ns.map V.int) ∧ ns.length ≤ 63 ∧ ∀ H' l n, Same H H' → H' l = some (.lst [.int n]) → Q (.ref l) H'
abbrev sCells : Stmt := topS 34
theorem scCells : FnScope ["_law_script", "_law_roof_so", "_law_bits_so", "_law_k", "_law_bit_so", "_law_at_so"] ["_law_script", "_law_roof_so"] (defScope sCells) := ⟨rfl, rfl, rfl, by decide +kernel, rfl, by decide +kernel, by decide +kernel⟩
theorem cutV_len (xs : List V) (lo hi : Option Int) : (cutV xs lo hi).length ≤ xs.length := cutV_length xs lo hi
theorem cutV_ints (ns : List Int) (lo hi : Option Int) : ∃ ms : List Int, cutV (ns.map V.int) lo hi = ms.map V.int ∧ ms.length ≤ ns.length := by
  unfold cutV
  refine ⟨(ns.drop (HT.sIx (ns.map V.int).length 0 lo)).take (HT.sIx (ns.map V.int).length (ns.map V.int).length hi - HT.sIx (ns.map V.int).length 0 lo), by rw [List.map_take, List.map_drop], ?_⟩
  rw [List.length_take, List.length_drop]
  omega
theorem cutV_to1 (ns : List Int) : cutV (ns.map V.int) none (some 1) = [] ∨ ∃ n, cutV (ns.map V.int) none (some 1) = [.int n] := by
  unfold cutV
  rw [show HT.sIx (ns.map V.int).length (ns.map V.int).length (some 1) = min 1 (ns.map V.int).length from HT.sIx_nat _ _ 1, HT.sIx_none, List.drop_zero, Nat.sub_zero]
  cases ns with
  | nil => exact .inl rfl
  | cons n ns =>
    refine .inr ⟨n, ?_⟩
    rw [show min 1 ((n :: ns).map V.int).length = 1 by simp]
    rfl
theorem ok_cells (D : Df K mg "_law_cells" sCells ["_law_script", "_law_roof_so"]) (T : Tx K mg) : Ok' P w K mg base "_law_cells" ["_law_script", "_law_roof_so"] 1 (spCells K) := by
  refine D.ok scCells (fun vs H Q E h => ?_) (fun f cdv A outer s H vs Q E hr h => ?_)
  · obtain ⟨a, ns, rfl, _⟩ := h; rfl
  · obtain ⟨a, ns, rfl, hs, hn, q⟩ := h
    refine ⟨_, pss_cons (ps_set (i := 2) scCells.nd rfl (.inl rfl) (pe_orT (pe_callTy call_list_of (by rfl) T.list (by decide +kernel) (pa_cons (pe_slice sl_list (pv 0) po_none (po_some (pv 1))) pa_nil)) (pe_one (pe_lst (pa_cons pe_int pa_nil)))))
      (pss_cons (ps_for PassesOwn.never rfl (pi_enum (by rfl) T.enumerate (pa_cons (pe_slice sl_list (pv 0) (po_some (pv 1)) (po_some pe_int)) pa_nil)) (pg_tup rfl (pgs_cons (pg_name (i := 3) scCells.nd rfl (Or.inl rfl)) (pgs_cons (pg_name (i := 4) scCells.nd rfl (Or.inl rfl)) pgs_nil)))
        (pss_cons (ps_set (i := 5) scCells.nd rfl (.inl rfl) (pe_op op_mod (pe_callTy call_int1 (by rfl) T.int (by decide +kernel) (pa_cons (pv 3) pa_nil)) (pv 1)))
        (pss_one (ps_asg (pe_op op_add (pe_ix ix_list (pv 2) (pv 5) (fun _ _ => rfl)) (pe_op op_mul (pv 4) (pe_op op_add (pv 3) pe_int))) (pg_sub (pv 2) (pv 5) set_list)))))
      (pss_one (ps_ret (pv 2)))), ?_⟩
    refine ⟨_, rfl, ?_⟩
    dsimp only [tNoPart]
    refine ⟨_, rfl, _, rfl, a, _, rfl, hs, fun l1 g1 => ?_⟩
    refine ⟨l1, _, rfl, .inl (SqL.of upd_same), fun l2 g2 => ?_⟩
    have s1 := (same_upd (o := .lst (cutV (ns.map V.int) none (some 1))) g1).trans (same_upd (o := .lst (cutV (ns.map V.int) none (some 1))) g2)
    -- the loop, from a list of one number that is new
    have loop : ∀ (H2 : Hp) (l : Addr) (n : Int), Same H H2 → H2 l = some (.lst [.int n]) → H l = none →
        tFor (iEnum K (tCons (tSl (rSlL K) (tVar 0) (tPart (tVar 1)) (tPart (tC (.int 63)))) tNil)) (gTup K 2 (gCons (gName 3) (gCons (gName 4) gNil))) (tSeq (tAsg (tOp (rI (fun _ j => 0 < j) fun i j => .int (i % j)) (tCB (fun xs H Q => (∃ i, xs = [.int i] ∧ Q (.int i) H) ∨ ∃ k, xs = [.bl k] ∧ Q (.int (if k = true then 1 else 0)) H) (tCons (tVar 3) tNil)) (tVar 1)) (gName 5))
          (tAsg (tOp (rI0 fun i j => .int (i + j)) (tOp (rIxL K) (tVar 2) (tVar 5)) (tOp (rI CMul fun i j => .int (i * j)) (tVar 4) (tOp (rI0 fun i j => .int (i + j)) (tVar 3) (tC (.int 2))))) (gSub (tVar 2) (tVar 5) rSetL)))
          { nx := tRet (tVar 2) { nx := fun _ H' => Q .non H', rt := Q }, rt := Q } [some (.ref a), some (.int 1), some (.ref l), none, none, none] H2 := by
      intro H2 l n s2 hl hl0
      refine ⟨_, rfl, _, rfl, 1, rfl, 63, rfl, a, _, rfl, s2.seq hs, fun l3 g3 => ?_⟩
      obtain ⟨ms, em, hm⟩ := cutV_ints ns (some 1) (some 63)
      have hl3 : l ≠ l3 := ne_of_none hl g3
      have e3 : upd H2 l3 (.lst (cutV (ns.map V.int) (some 1) (some 63))) l = some (.lst [.int n]) := by rw [upd_ne hl3]; exact hl
      refine ⟨l3, _, rfl, SqL.of upd_same, ?_⟩
      rw [em] at e3 ⊢
      refine for_it (walk_enum (K := K) (a := l3) (xs := ms.map V.int)) (fun i σ H' => ∃ n c3 c4 c5, σ = [some (.ref a), some (.int 1), some (.ref l), c3, c4, c5] ∧ H' l = some (.lst [.int n]) ∧ Same H H' ∧ H' l3 = some (.lst (ms.map V.int)))
        ⟨n, none, none, none, rfl, e3, s2.new g3, upd_same⟩ (fun i σ H' _ hp => by obtain ⟨_, _, _, _, _, _, _, h⟩ := hp; exact SqL.of h) ?_ ?_
      · rintro i x σ H3 H4 hi ⟨n, c3, c4, c5, rfl, h1, h2, h3⟩ ⟨t, x1, y1, rfl, gt, rfl, ex, ey⟩
        have ey' : (ms.map V.int)[i]? = some y1 := ey
        rw [List.getElem?_map] at ey'
        cases hm2 : ms[i]? with
        | none => rw [hm2] at ey'; cases ey'
        | some b =>
          rw [hm2] at ey'
          cases ey'
          cases ex
          have hi2 : i < 63 := by have := (List.getElem?_eq_some_iff.mp hm2).1; omega
          have k1 : upd H3 t (.tup [.int (i : Nat), .int b]) l = some (.lst [.int n]) := by rw [upd_ne (ne_of_none h1 gt)]; exact h1
          have k3 : upd H3 t (.tup [.int (i : Nat), .int b]) l3 = some (.lst (ms.map V.int)) := by rw [upd_ne (ne_of_none h3 gt)]; exact h3
          refine ⟨t, _, rfl, SqT.of upd_same, rfl, _, _, rfl, _, _, rfl, rfl, ?_⟩
          refine ⟨_, rfl, .inl ⟨_, rfl, _, rfl, _, _, rfl, rfl, (by show (0 : Int) < 1; decide), ?_⟩⟩
          refine ⟨_, rfl, _, rfl, l, [.int n], _, .int n, rfl, rfl, SqL.of k1, ?_, _, rfl, _, rfl, _, _, rfl, rfl, _, _, rfl, rfl, .inr (by omega), _, _, rfl, rfl, ?_⟩
          · show atI [V.int n] (((i : Nat) : Int) % 1) = some (.int n)
            rw [Int.emod_one]; rfl
          · refine ⟨_, rfl, _, rfl, l, [.int n], _, 0, rfl, rfl, k1, ?_, ?_⟩
            · show ixN 1 (((i : Nat) : Int) % 1) = some 0
              rw [Int.emod_one]; rfl
            · refine ⟨_, _, _, _, rfl, upd_same, (h2.new gt).put hl0, ?_⟩
              rw [upd_ne hl3.symm]; exact k3
      · rintro σ H3 ⟨n, c3, c4, c5, rfl, h1, h2, h3⟩
        exact ⟨_, rfl, q _ _ n h2 h1⟩
    have hl2 : H l2 = none := (same_upd (o := .lst (cutV (ns.map V.int) none (some 1))) g1).free g2
    rcases cutV_to1 ns with e | ⟨n, e⟩
    · refine ⟨false, .inl ⟨_, SqL.of upd_same, by rw [e]; rfl⟩, iteF ?_⟩
      refine ⟨by show 1 ≤ sizeLine; decide, fun l3 g3 => ?_⟩
      exact loop _ l3 0 (s1.new g3) upd_same (s1.free g3)
    · refine ⟨true, .inl ⟨_, SqL.of upd_same, by rw [e]; rfl⟩, iteT ?_⟩
      refine loop _ l2 n s1 (by rw [upd_same, e]) hl2
end
end L2

set_option Elab.async false
set_option linter.all false
set_option maxRecDepth 100000
set_option maxHeartbeats 8000000
namespace L2
open PySem PySem.Spec PyProof.Rows
open Lk (Six Bd SixR Wt Below)
/-! ## words that the heap tracks -/
def WdAll (H : Hp) (vs : List V) (ws : List (List Int)) : Prop := vs.length = ws.length ∧ ∀ (i : Nat) (w : List Int), ws[i]? = some w → ∃ a, vs[i]? = some (V.ref a) ∧ H a = some (.tup (w.map V.int))
theorem WdAll.nil {H : Hp} : WdAll H [] [] := ⟨rfl, fun i w h => by cases h⟩
theorem WdAll.same {H H' : Hp} {vs : List V} {ws : List (List Int)} (h : WdAll H vs ws) (e : Same H H') : WdAll H' vs ws := ⟨h.1, fun i w hw => by
  obtain ⟨a, h1, h2⟩ := h.2 i w hw
  exact ⟨a, h1, e _ _ h2⟩⟩
theorem WdAll.append {H : Hp} {vs vs2 : List V} {ws ws2 : List (List Int)} (h : WdAll H vs ws) (h2 : WdAll H vs2 ws2) : WdAll H (vs ++ vs2) (ws ++ ws2) := by
  refine ⟨by rw [List.length_append, List.length_append, h.1, h2.1], fun i w hw => ?_⟩
  by_cases hi : i < ws.length
  · rw [List.getElem?_append_left hi] at hw
    rw [List.getElem?_append_left (by rw [h.1]; exact hi)]
    exact h.2 i w hw
  · rw [List.getElem?_append_right (by omega)] at hw
    rw [List.getElem?_append_right (by rw [h.1]; omega), h.1]
    exact h2.2 _ w hw
theorem WdAll.one {H : Hp} {a : Addr} {w : List Int} (h : H a = some (.tup (w.map V.int))) : WdAll H [.ref a] [w] := ⟨rfl, fun i x hx => by
  cases i with
  | zero => cases hx; exact ⟨a, rfl, h⟩
  | succ i => cases hx⟩
/-- a new list over it -/
theorem WdAll.put {H : Hp} {D : Addr} {xs ys vs : List V} {ws : List (List Int)} (h : WdAll H vs ws) (hD : H D = some (.lst xs)) : WdAll (upd H D (.lst ys)) vs ws := ⟨h.1, fun i w hw => by
  obtain ⟨a, h1, h2⟩ := h.2 i w hw
  exact ⟨a, h1, by rw [upd_ne (ne_of h2 hD (by intro z; cases z))]; exact h2⟩⟩
theorem WdAll.dp {K : PySem.W.Frag} {H : Hp} {vs : List V} {ws : List (List Int)} (h : WdAll H vs ws) {i : Nat} {w : List Int} (hw : ws[i]? = some w) : ∃ a, vs[i]? = some (.ref a) ∧ H a = some (.tup (w.map V.int)) ∧ Dp K H (.ref a) (dW w) := by
  obtain ⟨a, h1, h2⟩ := h.2 i w hw
  exact ⟨a, h1, h2, Dp.mkW (SqT.of h2)⟩
theorem op_catK {X : Cx} {K : PySem.W.Frag} (h : X.K = K) : OpR X (binaryOp .Add) (rCatA K) := h ▸ op_catA
theorem catA_one {K : PySem.W.Frag} {H : Hp} {a t : Addr} {xs : List V} {y : V} {Q : VK} (h1 : SqT K H a xs) (h2 : H t = some (.tup [y])) (hz : xs.length + 1 ≤ sizeLine) (q : ∀ p H', Same H H' → H' p = some (.tup (xs ++ [y])) → Q (.ref p) H') : rCatA K (.ref a) (.ref t) H Q := by
  refine ⟨a, t, xs, [y], rfl, rfl, h1, SqT.of h2, hz, fun e => ?_, fun _ (e : [y] = []) => absurd e (List.cons_ne_nil _ _), fun _ _ p hp => ?_⟩
  · subst e
    exact q t H (Same.refl _) h2
  · exact q p _ (same_upd hp) upd_same
theorem bit_two (b : Bool) : -(2 ^ 64) < (if b = true then (1 : Int) else 0) ∧ (if b = true then (1 : Int) else 0) < 2 ^ 64 := by
  cases b <;> decide
theorem bit_nn (b : Bool) : 0 ≤ (if b = true then (1 : Int) else 0) := by
  cases b <;> decide
section
variable {P : Program} {w : World} {K : PySem.W.Frag} {mg : Str → Option Value} {base : Heap}
/-! ## the box -/
def spBox (K : PySem.W.Frag) : Sp := fun vs H Q _ => ∃ a n, vs = [.ref a, .int 0] ∧ SqL K H a [.int n] ∧ ∀ H' u, Same H H' → H u = none → UrnAt H' u 0 → Q (.ref u) H'
abbrev sBox : Stmt := topS 32
theorem scBox : FnScope ["_law_script", "_law_k", "_law_bit_so"] ["_law_script", "_law_k"] (defScope sBox) := ⟨rfl, rfl, rfl, by decide +kernel, rfl, by decide +kernel, by decide +kernel⟩
theorem ok_box (D : Df K mg "_law_box" sBox ["_law_script", "_law_k"]) (T : Tx K mg) : Ok' P w K mg base "_law_box" ["_law_script", "_law_k"] 1 (spBox K) := by
  refine D.ok scBox (fun vs H Q E h => ?_) (fun f cdv A outer s H vs Q E hr h => ?_)
  · obtain ⟨a, n, rfl, _⟩ := h; rfl
  · obtain ⟨a, n, rfl, hs, q⟩ := h
    refine ⟨_, pss_cons (ps_set (i := 2) scBox.nd rfl (.inl rfl) (pe_ifExp (pt_cmpR op_lt (pv 1) (pe_callB call_len_seq (by rfl) T.len PySem.boot_len (pa_cons (pv 0) pa_nil)) (nomark _)) (pe_ix ix_list (pv 0) (pv 1) (fun _ _ => rfl)) pe_int))
      (pss_one (ps_ret (pe_lst (pa_cons (pe_op op_mul (pe_callB call_abs (by rfl) T.abs (by decide +kernel) (pa_cons (pv 2) pa_nil)) (pe_callTy call_int1 (by rfl) T.int (by decide +kernel) (pa_cons (pe_cmpR op_ge (pe_callB call_abs (by rfl) T.abs (by decide +kernel) (pa_cons (pv 2) pa_nil)) (pe_op op_pow pe_int pe_int) (nomark _)) pa_nil)))
        (pa_cons (pe_op op_add (pe_op op_add (pe_op op_mod (pe_callTy call_int1 (by rfl) T.int (by decide +kernel) (pa_cons (pv 2) pa_nil)) pe_int) (pe_op op_mul pe_int (pv 1))) pe_int) (pa_cons pe_int pa_nil)))))), ?_⟩
    refine ⟨.int 0, rfl, .ref a, rfl, a, _, rfl, .inl hs, _, _, rfl, rfl, _, rfl, ?_⟩
    refine ifT (decide_eq_true (by simp)) ?_
    refine ⟨_, rfl, _, rfl, a, _, _, _, rfl, rfl, hs, rfl, ?_⟩
    refine ⟨_, rfl, _, rfl, ?_⟩
    refine ⟨_, rfl, _, rfl, _, _, rfl, rfl, ⟨by decide, by decide, by decide⟩, _, _, rfl, rfl, .inr ⟨_, rfl, ?_⟩⟩
    refine ⟨_, _, rfl, rfl, .inr (bit_two _), ?_⟩
    refine ⟨_, rfl, .inl ⟨_, rfl, _, _, rfl, rfl, (by show (0 : Int) < 2305843009213693951; decide), _, rfl, _, _, rfl, rfl, .inl (by decide), _, _, rfl, rfl, _, _, rfl, rfl, ?_⟩⟩
    refine ⟨by show 3 ≤ sizeLine; decide, fun u hu => ?_⟩
    refine q _ u (same_upd hu) hu ⟨_, _, _, upd_same, ?_, ?_, ?_, by decide, by decide⟩
    · refine Int.mul_nonneg (by split <;> omega) (bit_nn _)
    · have := Int.emod_nonneg n (b := 2305843009213693951) (by decide)
      omega
    · have := Int.emod_lt_of_pos n (b := 2305843009213693951) (by decide)
      omega
/-! ## the words of the law -/
def spWords (K : PySem.W.Frag) : Sp := fun vs H Q _ => ∃ wide n : Nat, vs = [.int (wide : Int), .int (n : Int)] ∧ wide ≤ 3 ∧ n ≤ 4 ∧ ∀ H' l xs, Same H H' → H' l = some (.lst xs) → WdAll H' xs (Lk.words wide n) → Q (.ref l) H'
abbrev sWords : Stmt := topS 44
theorem scWords : FnScope ["_law_wide_so", "_law_long_so", "_law_found", "_law_last_so", "_law_lap", "_law_more_so", "_law_own", "_law_k"] ["_law_wide_so", "_law_long_so"] (defScope sWords) := ⟨rfl, rfl, rfl, by decide +kernel, rfl, by decide +kernel, by decide +kernel⟩
theorem len_more (wide : Nat) : ∀ l : List (List Int), (Lk.more wide l).length = l.length * wide
  | [] => by simp [Lk.more]
  | a :: l => by
    have := len_more wide l
    unfold Lk.more at *
    rw [List.flatMap_cons, List.length_append, this, List.length_map, List.length_range, List.length_cons, Nat.add_mul, Nat.one_mul, Nat.add_comm]
theorem len_lastN (wide : Nat) : ∀ n, (Lk.lastW wide n).length = wide ^ n
  | 0 => rfl
  | n + 1 => by rw [Lk.lastW, len_more, len_lastN wide n, Nat.pow_succ]
theorem len_lastB {wide n : Nat} (h : wide ≤ 3) (hn : n ≤ 4) : (Lk.lastW wide n).length ≤ 81 := by
  rw [len_lastN]
  exact Nat.le_trans (Nat.pow_le_pow_left h n) (Nat.pow_le_pow_right (n := 3) (by decide) hn)
theorem len_wordsB {wide : Nat} (h : wide ≤ 3) : ∀ n, n ≤ 4 → (Lk.words wide n).length ≤ 81 * (n + 1)
  | 0, _ => by show 1 ≤ 81; decide
  | n + 1, hn => by
    have h1 := len_wordsB h n (by omega)
    have h2 := len_lastB h hn
    rw [Lk.words, List.length_append]
    omega
theorem more_snoc (wide : Nat) (l : List (List Int)) {i : Nat} {own : List Int} (h : l[i]? = some own) : Lk.more wide (l.take (i + 1)) = Lk.more wide (l.take i) ++ (List.range wide).map fun k => own ++ [((k : Nat) : Int)] := by
  unfold Lk.more
  rw [List.take_add_one, h, List.flatMap_append]
  simp
theorem ok_words (D : Df K mg "_law_words" sWords ["_law_wide_so", "_law_long_so"]) (T : Tx K mg) : Ok' P w K mg base "_law_words" ["_law_wide_so", "_law_long_so"] 1 (spWords K) := by
  refine D.ok scWords (fun vs H Q E h => ?_) (fun f cdv A outer s H vs Q E hr h => ?_)
  · obtain ⟨wide, n, rfl, _⟩ := h; rfl
  · obtain ⟨wide, n, rfl, hw, hn, q⟩ := h
    refine ⟨_, pss_cons (ps_par (i := 2) (j := 3) (by rfl) scWords.nd rfl rfl (by decide) rfl rfl (pa_cons (pe_lst (pa_cons (pe_tup pa_nil) pa_nil)) (pa_cons (pe_lst (pa_cons (pe_tup pa_nil) pa_nil)) pa_nil)) (by rfl))
      (pss_cons (ps_for PassesOwn.never rfl (pi_range1 (by rfl) T.range (pa_cons (pv 1) pa_nil)) (pg_name (i := 4) scWords.nd rfl (Or.inl rfl))
        (pss_cons (ps_set (i := 5) scWords.nd rfl (.inl rfl) (pe_lst pa_nil))
        (pss_cons (ps_for PassesOwn.never rfl (pi_list (pv 3)) (pg_name (i := 6) scWords.nd rfl (Or.inr rfl))
          (pss_one (ps_set (i := 5) scWords.nd rfl (.inl rfl) (pe_op op_cat (pv 5) (pe_lc (own := [("_law_k", 7)]) (g := gName 7) (tt := tYes) rfl scWords.nd (pi_range1 (by rfl) T.range (pa_cons (pv 0) pa_nil))
            (blkOk_by (N := ["_law_wide_so", "_law_long_so", "_law_found", "_law_last_so", "_law_lap", "_law_more_so", "_law_own", "_law_k"]) (sc := defScope sWords) (by decide +kernel))
            (fun _ _ _ _ _ => pg_name (i := 7) scWords.nd rfl (Or.inl rfl)) (fun _ _ _ _ _ => pts_nil) (fun _ _ _ _ _ => pe_op (op_catK (K := K) rfl) (pv 6) (pe_tup (pa_cons (pv 7) pa_nil))))))))
        (pss_cons (ps_set (i := 3) scWords.nd rfl (.inl rfl) (pv 5))
        (pss_one (ps_set (i := 2) scWords.nd rfl (.inl rfl) (pe_op op_cat (pv 2) (pv 3))))))))
      (pss_one (ps_ret (pv 2)))), ?_⟩
    have z0 : 0 ≤ sizeLine := Nat.zero_le _
    have z1 : 1 ≤ sizeLine := by decide
    refine ⟨z0, fun p1 g1 => ⟨z1, fun p2 g2 => ⟨z0, fun p3 g3 => ⟨z1, fun p4 g4 => ⟨_, _, rfl, ?_⟩⟩⟩⟩⟩
    have s1 := same_upd (o := .tup []) g1
    have s2 := same_upd (o := .lst [.ref p1]) g2
    have s3 := same_upd (o := .tup []) g3
    have s4 := same_upd (o := .lst [.ref p3]) g4
    have w1 : WdAll (upd H p1 (.tup [])) [.ref p1] [[]] := .one upd_same
    have w3 : WdAll (upd (upd (upd H p1 (.tup [])) p2 (.lst [.ref p1])) p3 (.tup [])) [.ref p3] [[]] := .one upd_same
    refine ⟨_, rfl, _, rfl, by omega, by omega, ?_⟩
    rw [Int.toNat_natCast]
    refine for_it walk_range (fun i σ H' => ∃ F L xs ys c4 c5 c6, σ = [some (.int (wide : Int)), some (.int (n : Int)), some (.ref F), some (.ref L), c4, c5, c6, none] ∧ Same H H' ∧ H' F = some (.lst xs) ∧ H' L = some (.lst ys) ∧ WdAll H' xs (Lk.words wide i) ∧ WdAll H' ys (Lk.lastW wide i))
      ⟨p2, p4, [.ref p1], [.ref p3], none, none, none, rfl, ((s1.trans s2).trans s3).trans s4, s4 _ _ (s3 _ _ upd_same), upd_same, w1.same ((s2.trans s3).trans s4), w3.same s4⟩ (fun _ _ _ _ _ => True.intro) ?_ ?_
    · rintro i x σ H3 H2 hi ⟨F, L, xs, ys, c4, c5, c6, rfl, k1, k2, k3, k4, k5⟩ ⟨rfl, rfl⟩
      have hi : i < n := by simpa using hi
      refine ⟨z0, fun M0 hM0 => ?_⟩
      have r0 := same_upd (o := .lst []) hM0
      refine ⟨.ref L, rfl, L, rfl, ⟨ys, .inl (.inl (r0 _ _ k3))⟩, ?_⟩
      refine for_it walk_list (fun j σ H' => ∃ M zs c6, σ = [some (.int (wide : Int)), some (.int (n : Int)), some (.ref F), some (.ref L), some (.int (0 + (i : Int))), some (.ref M), c6, none] ∧ Same H2 H' ∧ H' M = some (.lst zs) ∧ WdAll H' zs (Lk.more wide ((Lk.lastW wide i).take j)))
        ⟨M0, [], c6, rfl, r0, upd_same, .nil⟩ (fun j σ H' _ hp => by obtain ⟨_, _, _, _, h, _⟩ := hp; exact SqL.of (h _ _ k3)) ?_ ?_
      · rintro j x σ H4 H5 hj ⟨M, zs, c6, rfl, m1, m2, m3⟩ ⟨rfl, hx⟩
        obtain ⟨own, how⟩ : ∃ own, (Lk.lastW wide i)[j]? = some own := ⟨(Lk.lastW wide i)[j]'(by rw [← k5.1]; exact hj), by simp⟩
        obtain ⟨a, e1, e2⟩ := k5.2 j own how
        rw [hx] at e1
        cases e1
        refine ⟨_, rfl, _, rfl, _, rfl, by omega, by omega, fun D hD => ?_⟩
        rw [Int.toNat_natCast]
        have d0 := same_upd (o := .lst []) hD
        refine lc_it walk_range (fun k H' => ∃ acc, H' D = some (.lst acc) ∧ Same H5 H' ∧ WdAll H' acc ((List.range k).map fun k => own ++ [((k : Nat) : Int)]) ∧ k ≤ wide) ⟨[], upd_same, d0, .nil, Nat.zero_le _⟩ (fun _ _ _ _ => True.intro) ?_ ?_
        · rintro k y H6 H7 hk ⟨acc, n1, n2, n3, n4⟩ ⟨rfl, rfl⟩
          have hk : k < wide := by omega
          have e3 := n2 _ _ (m1 _ _ e2)
          refine ⟨rfl, _, rfl, _, rfl, z1, fun t ht => ?_⟩
          have t0 := same_upd (o := .tup [.int (0 + (k : Int))]) ht
          have hal : acc.length = k := by rw [n3.1, List.length_map, List.length_range]
          have hown : own.length ≤ i := (Lk.len_lastW _ own (List.mem_of_getElem? how)).1 ▸ Nat.le_refl _
          have e4 := t0 _ _ e3
          have hs16 : 1000 < sizeLine := by decide
          refine catA_one (SqT.of e4) upd_same (by rw [List.length_map]; omega) fun p H8 s8 hp => ?_
          have n1' := s8 _ _ (t0 _ _ n1)
          refine ⟨acc, n1', by omega, acc ++ [.ref p], upd_same, ((n2.trans t0).trans s8).put hD, ?_, by omega⟩
          rw [List.range_succ, List.map_append]
          refine WdAll.put ((n3.same (t0.trans s8)).append (.one ?_)) n1'
          rw [hp, List.map_append]
          show some (HO.tup (own.map V.int ++ [V.int (0 + (k : Int))])) = _
          rw [Int.zero_add]
          rfl
        · rintro H6 ⟨acc, n1, n2, n3, n4⟩
          have hzl := m3.1
          rw [len_more, List.length_take] at hzl
          have hb := len_lastB (n := i) hw (by omega)
          have hb2 : min j (Lk.lastW wide i).length * wide ≤ 81 * 3 := Nat.mul_le_mul (by omega) hw
          have hal : acc.length = wide := by rw [n3.1, List.length_map, List.length_range]
          refine ⟨M, D, zs, acc, rfl, rfl, n2 _ _ m2, n1, by (have : 1000 < sizeLine := by decide); omega, fun p hp => ?_⟩
          refine ⟨p, _, _, rfl, (m1.trans n2).new hp, upd_same, ?_⟩
          rw [more_snoc _ _ how]
          exact ((m3.same n2).append n3).same (same_upd hp)
      · rintro σ H4 ⟨M, zs, c6, rfl, m1, m2, m3⟩
        have e : Lk.more wide ((Lk.lastW wide i).take ys.length) = Lk.lastW wide (i + 1) := by rw [k5.1, List.take_length]; rfl
        rw [e] at m3
        refine ⟨_, rfl, _, rfl, _, rfl, F, M, xs, zs, rfl, rfl, m1 _ _ k2, m2, ?_, fun p hp => ?_⟩
        · have h1 := len_wordsB hw i (by omega)
          have h2 := len_lastB (n := i + 1) hw (by omega)
          have h3 := k4.1
          have h4 := m3.1
          have : 1000 < sizeLine := by decide
          have : 81 * (i + 1) ≤ 81 * 5 := Nat.mul_le_mul_left _ (by omega)
          omega
        · have t1 := same_upd (o := .lst (xs ++ zs)) hp
          exact ⟨p, M, _, _, _, _, _, rfl, (k1.trans m1).trans t1, upd_same, t1 _ _ m2, ((k4.same m1).append m3).same t1, m3.same t1⟩
    · rintro σ H2 ⟨F, L, xs, ys, c4, c5, c6, rfl, k1, k2, k3, k4, k5⟩
      exact ⟨_, rfl, q _ _ _ k1 k2 k4⟩
end
end L2

set_option Elab.async false
set_option linter.all false
set_option maxRecDepth 100000
set_option maxHeartbeats 8000000
namespace L2
open PySem PySem.Spec PyProof.Rows
/-! ## dict(pairs), the keys tuples -/
theorem stored_new {J : Type} [DecidableEq J] : ∀ (ps xs : List (J × Addr × Value)), ((xs ++ ps).map (·.1)).Nodup → storedAllH xs ps = xs ++ ps
  | [], xs, _ => by rw [List.append_nil]; rfl
  | p :: ps, xs, h => by
    have e : xs ++ p :: ps = (xs ++ [p]) ++ ps := by rw [List.append_assoc]; rfl
    rw [e] at h ⊢
    rw [← stored_new ps (xs ++ [p]) h]
    show storedAllH (storedH xs p.1 p.2.1 p.2.2) ps = _
    rw [storedH_new]
    refine atKey_none_of_get fun j q hq => ?_
    rw [List.map_append, List.map_append, List.nodup_append] at h
    have h1 := (List.nodup_append.mp h.1).2.2
    exact h1 p.1 (List.mem_map.mpr ⟨_, List.mem_of_getElem? hq, rfl⟩) p.1 (by simp) rfl
abbrev Tri := Addr × List Key × Addr × V
section
variable {X : Cx}
theorem tri_of {pins : List (Addr × Obj)} {σ : St} {H : Hp} {s : Shared} (I : Inv X pins σ H s) : ∀ ts : List Tri, (∀ t ∈ ts, SqT X.K H t.1 [.ref t.2.2.1, t.2.2.2] ∧ H t.2.2.1 = some (.tup (t.2.1.map kV))) →
    ∃ prs : List (List Key × Addr × Value), prs.length = ts.length ∧ KT H (ts.map fun t => (t.2.1, t.2.2.2)) prs ∧ prs.map (·.1) = ts.map (fun t => t.2.1) ∧
      (∀ (j : Nat) (q : List Key × Addr × Value), prs[j]? = some q → ∃ T, (ts.map (·.1))[j]? = some T ∧ IsTup s.heap T #[.ref q.2.1, q.2.2]) ∧ ∀ q ∈ prs, (tupleKind (mixKind X.prog X.w)).is s.heap q.1 q.2.1
  | [], _ => ⟨[], rfl, .nil, rfl, fun j q e => by simp at e, fun q hq => nomatch hq⟩
  | t :: ts, h => by
    obtain ⟨prs, e1, e2, e3, e4, e5⟩ := tri_of I ts fun t ht => h t (List.mem_cons_of_mem _ ht)
    obtain ⟨h1, h2⟩ := h t List.mem_cons_self
    obtain ⟨its, rv, ht, _⟩ := I.tuple h1
    obtain ⟨u, y, ei, ru, ry⟩ := vals2 rv
    subst ei
    cases ru
    refine ⟨(t.2.1, t.2.2.1, y) :: prs, by rw [List.length_cons, List.length_cons, e1], .cons ⟨rfl, h2, ry⟩ e2, by rw [List.map_cons, List.map_cons, e3], fun j q e => ?_, fun q hq => ?_⟩
    · cases j with
      | zero => cases e; exact ⟨t.1, rfl, ht⟩
      | succ j => exact e4 j q e
    · rcases List.mem_cons.mp hq with rfl | hq
      · exact key_of I.hok h2
      · exact e5 q hq
theorem call_dictT (hcalm : X.calm = true) (hu : X.A.units + 64 < cLine) : CallR X (.type "dict") (fun xs H Q => ∃ (a : Addr) (ts : List Tri), xs = [.ref a] ∧ SqL X.K H a (ts.map fun t => V.ref t.1) ∧ (∀ t ∈ ts, SqT X.K H t.1 [.ref t.2.2.1, t.2.2.2] ∧ H t.2.2.1 = some (.tup (t.2.1.map kV))) ∧ (ts.map fun t => t.2.1).Nodup ∧
    ∀ p, H p = none → Q (.ref p) (upd H p (.dT (ts.map fun t => (t.2.1, t.2.2.2))))) := by
  intro pins s σ H xs us Q I r q
  obtain ⟨a, ts, ex, hq, hp, hn, q⟩ := q
  subst ex
  obtain ⟨u, eu, rx⟩ := vals1 r
  subst eu
  cases rx
  obtain ⟨its, rv, pl, hz⟩ := I.list hq
  have rv' : Vals ((ts.map (·.1)).map V.ref) its := by rw [List.map_map]; exact rv
  have ei := refs_at rv'
  subst ei
  rw [List.length_map] at hz
  obtain ⟨prs, e1, e2, e3, e4, e5⟩ := tri_of I ts hp
  obtain ⟨o, n, ho, hc, hd, hdat⟩ := pl
  have hpi : PairItems s.heap ((ts.map (·.1)).map Value.ref).toArray (fun j => ((ts.map (·.1))[j]?).getD 0) (prs.map fun q => (Value.ref q.2.1, q.2.2)) := by
    refine ⟨by simp [e1], fun j k v hj => ?_⟩
    rw [List.getElem?_map] at hj
    cases hpj : prs[j]? with
    | none => rw [hpj] at hj; cases hj
    | some t =>
      rw [hpj] at hj
      cases hj
      obtain ⟨T, g1, g2⟩ := e4 j t hpj
      dsimp only
      rw [g1]
      refine ⟨?_, .inl g2⟩
      · rw [List.getElem?_toArray, List.getElem?_map, g1]; rfl
  refine call_dict_pairsH (knd := tupleKind (mixKind X.prog X.w)) (ps := prs) (PairArg.list a ((ts.map (·.1)).map Value.ref).toArray (fun j => ((ts.map (·.1))[j]?).getD 0) (prs.map fun q => (Value.ref q.2.1, q.2.2))) (I.ok.hd hcalm) ?_ ⟨⟨o, n, ho, hc, hd, hdat⟩, hpi⟩ ⟨by rw [List.length_map], fun i key v hr => ?_⟩ ?_ ?_ fun h' tk hd' hk => ?_
  · show X.A.units + 1 + 1 < cLine
    omega
  · have hr' : (prs.map fun q => (Value.ref q.2.1, q.2.2))[i]? = some (key, v) := hr
    rw [List.getElem?_map] at hr'
    cases hpj : prs[i]? with
    | none => rw [hpj] at hr'; cases hr'
    | some t =>
      rw [hpj] at hr'
      cases hr'
      exact ⟨t.1, t.2.1, rfl, rfl⟩
  · intro h' hk x hx
    exact tupleKind_stays.stays (fun b o vs n hb _ => hk b o (Nat.ne_of_lt (Heap.lt_size hb)) (by simp) hb) (e5 x hx)
  · rw [List.length_map, e1]; exact hz
  · rw [stored_new prs [] (by rw [List.nil_append, e3]; exact hn), List.nil_append] at hd'
    have hm : (s.heap.objs.size == sysModules) = false := beq_eq_false_iff_ne.mpr (Nat.ne_of_gt I.big)
    obtain ⟨o', es, ep, g1, g2, g3, g4, _, g5⟩ := hd'
    have hfr := I.hok.fresh (a := s.heap.objs.size) (Nat.le_refl _)
    refine ⟨.ref s.heap.objs.size, upd H s.heap.objs.size (.dT (ts.map fun t => (t.2.1, t.2.2.2))), I.laid (t' := tk) (fun b o e => hk b o (by simp) e) (Nat.le_refl _) ?_, rfl, q _ hfr⟩
    refine ⟨by rw [List.length_map]; exact hz, hm, prs, Paired.mapP e2 fun p q z => ⟨z.1, ?_, z.2.2⟩, o', es, ep, g1, g2, g3, g4, g5⟩
    rw [upd_ne (ne_of_none z.2.1 hfr)]
    exact z.2.1
end
end L2

set_option Elab.async false
set_option linter.all false
set_option maxRecDepth 100000
set_option maxHeartbeats 8000000
namespace L2
open PySem PySem.Spec PyProof.Rows
open Sem (wp)
open PySem.W (kdx_alive)
/-! ## list(zip(xs, ys)) of two lists -/
theorem zip_no_len : typeLookup (.type "zip") "__len__" = pure none := am_miss_of_fast (by decide +kernel)
theorem zip_no_hint : typeLookup (.type "zip") "__length_hint__" = pure none := am_miss_of_fast (by decide +kernel)
section
variable {prog : Program} {w : World} {A : Around} {E : Value → Shared → Prop} {s : Shared}
theorem hint_zip {r : Addr} (hT : s.TypeIs (.ref r) "zip") {Q : Bool → Shared → Prop} (h : Q true s) : wpAny (model prog w) A (Builtin.List.listLengthHint (.ref r)) Q E s := by
  unfold Builtin.List.listLengthHint
  refine wpAny_bind (wpAny_specialOf hT zip_no_len ?_)
  refine wpAny_ite_split (fun hab => absurd hab (by decide)) (fun _ => ?_)
  refine wpAny_ite_split (fun hab => absurd hab (by decide)) (fun _ => ?_)
  exact wpAny_bind (wpAny_specialOf hT zip_no_hint (wpAny_pure h))
/-- a zip over two lists, within the loop of a list S -/
def ZSt (h : Heap) (S z TI TO i1 i2 l1 l2 : Addr) (xs ys : Array Value) (i : Nat) : Prop :=
  IsPair h TI (.ref i1) (.ref i2) ∧ h.IsListIter i1 l1 i ∧ h.IsListIter i2 l2 i ∧ h.IsList l1 xs ∧ h.IsList l2 ys ∧
    ((IsZip h z TI TO .none ∧ ∃ a b, IsPair h TO a b) ∨ ∃ T f oT, IsZipHeld h z TI TO T f ∧ h.get? T = some oT ∧ T ≠ z ∧ T ≠ i1 ∧ T ≠ i2 ∧ T ≠ S)
structure ZOff (S z TI TO i1 i2 l1 l2 : Addr) : Prop where
  z : z < S
  TI : TI < S
  TO : TO < S
  i1 : i1 < S
  i2 : i2 < S
  l1 : l1 < S
  l2 : l2 < S
theorem ZSt.keep {h h' : Heap} {S z TI TO i1 i2 l1 l2 : Addr} {xs ys : Array Value} {i : Nat} (x : ZSt h S z TI TO i1 i2 l1 l2 xs ys i) (O : ZOff S z TI TO i1 i2 l1 l2) (hk : ∀ b o, b ≠ S → h.get? b = some o → h'.get? b = some o) : ZSt h' S z TI TO i1 i2 l1 l2 xs ys i := by
  obtain ⟨hTI, h1, h2, hl1, hl2, hz⟩ := x
  refine ⟨hk _ _ (Nat.ne_of_lt O.TI) hTI, h1.at fun o e => hk _ o (Nat.ne_of_lt O.i1) e, h2.at fun o e => hk _ o (Nat.ne_of_lt O.i2) e, hl1.at fun o e => hk _ o (Nat.ne_of_lt O.l1) e, hl2.at fun o e => hk _ o (Nat.ne_of_lt O.l2) e, ?_⟩
  rcases hz with ⟨hz, a, b, hTO⟩ | ⟨T, f, oT, hz, hT, r1, r2, r3, r4⟩
  · exact .inl ⟨hk _ _ (Nat.ne_of_lt O.z) hz, a, b, hk _ _ (Nat.ne_of_lt O.TO) hTO⟩
  · exact .inr ⟨T, f, oT, hk _ _ (Nat.ne_of_lt O.z) hz, hk _ _ r4 hT, r1, r2, r3, r4⟩
theorem zst_item {S z TI TO i1 i2 l1 l2 : Addr} {xs ys : Array Value} {i : Nat} {x y : Value} {Q : Option Value → Shared → Prop} (D : ZipApart z TI TO i1 i2 l1 l2) (st : ZSt s.heap S z TI TO i1 i2 l1 l2 xs ys i) (hS : S < s.heap.objs.size)
    (ex : xs[i]? = some x) (ey : ys[i]? = some y)
    (hQ : ∀ h', ZSt h' S z TI TO i1 i2 l1 l2 xs ys (i + 1) → IsPair h' s.heap.objs.size x y → (∀ c o, c ≠ z → c ≠ TO → c ≠ i1 → c ≠ i2 → s.heap.get? c = some o → h'.get? c = some o) → Q (some (.ref s.heap.objs.size)) { s with heap := h' }) :
    wpAny (model prog w) A (pyNext (.ref z)) Q E s := by
  obtain ⟨hTI, h1, h2, hl1, hl2, hz⟩ := st
  have lt : ∀ {c o}, s.heap.get? c = some o → s.heap.objs.size ≠ c := fun e => Nat.ne_of_gt (Heap.lt_size e)
  have n1 : s.heap.objs.size ≠ i1 := let ⟨_, e, _⟩ := h1; lt e
  have n2 : s.heap.objs.size ≠ i2 := let ⟨_, e, _⟩ := h2; lt e
  rcases hz with ⟨hz, a, b, hTO⟩ | ⟨T, f, oT, hz, hT, r1, r2, r3, r4⟩
  · refine wpAny_pyNext_zip_item D hz hTI hTO h1 h2 hl1 hl2 ex ey fun h' a1 a2 a3 a4 a5 a6 hk => ?_
    exact hQ h' ⟨hk _ _ D.TIz D.TITO D.TIi1 D.TIi2 hTI, a3, a4, hl1.at fun o e => hk _ o D.l1z D.l1TO D.l1i1 D.l1i2 e, hl2.at fun o e => hk _ o D.l2z D.l2TO D.l2i1 D.l2i2 e,
        .inr ⟨s.heap.objs.size, false, _, a1, a5, lt hz, n1, n2, Nat.ne_of_gt hS⟩⟩ a5 hk
  · refine wpAny_pyNext_zip_item_held D hz hT hTI h1 h2 hl1 hl2 ex ey fun h' a1 a3 a4 a5 a6 hk => ?_
    exact hQ h' ⟨hk _ _ D.TIz D.TIi1 D.TIi2 hTI, a3, a4, hl1.at fun o e => hk _ o D.l1z D.l1i1 D.l1i2 e, hl2.at fun o e => hk _ o D.l2z D.l2i1 D.l2i2 e,
        .inr ⟨T, true, oT, a1, hk _ _ r1 r2 r3 hT, r1, r2, r3, r4⟩⟩ a5 fun c o c1 _ c2 c3 e => hk c o c1 c2 c3 e
theorem zst_done {S z TI TO i1 i2 l1 l2 : Addr} {xs ys : Array Value} {i : Nat} {Q : Option Value → Shared → Prop} (hh : A.handled = none) (D : ZipApart z TI TO i1 i2 l1 l2) (st : ZSt s.heap S z TI TO i1 i2 l1 l2 xs ys i) (hend : xs[i]? = none ∨ ys[i]? = none)
    (hQ : ∀ h', (∀ c o, c ≠ z → c ≠ TO → c ≠ i1 → c ≠ i2 → s.heap.get? c = some o → h'.get? c = some o) → Q none { s with heap := h' }) : wpAny (model prog w) A (pyNext (.ref z)) Q E s := by
  obtain ⟨hTI, h1, h2, hl1, hl2, hz⟩ := st
  rcases hz with ⟨hz, a, b, hTO⟩ | ⟨T, f, oT, hz, hT, r1, r2, r3, r4⟩
  · exact wpAny_pyNext_zip_end hh D hz hTI hTO h1 h2 hl1 hl2 hend fun h' hk => hQ h' hk
  · exact wpAny_pyNext_zip_end_held hh D hz hT hTI h1 h2 hl1 hl2 hend fun h' hk => hQ h' fun c o c1 _ c2 c3 e => hk c o c1 c2 c3 e
structure ZG (xs ys : Array Value) (lo : Addr) (h : Heap) (as : List Addr) : Prop where
  rise : as.Pairwise (· < ·)
  above : ∀ a ∈ as, lo < a
  pairs : ∀ (j : Nat) (a : Addr), as[j]? = some a → ∃ x y, xs[j]? = some x ∧ ys[j]? = some y ∧ IsPair h a x y
theorem ZG.there {xs ys : Array Value} {lo : Addr} {h : Heap} {as : List Addr} (g : ZG xs ys lo h as) {a : Addr} (ha : a ∈ as) : a < h.objs.size := by
  obtain ⟨j, hj⟩ := List.mem_iff_getElem?.mp ha
  obtain ⟨_, _, _, _, e⟩ := g.pairs j a hj
  exact Heap.lt_size e
end
section
variable {prog : Program} {w : World} {A : Around} {s : Shared} {R : Result → Shared → Prop}
theorem zip_loop {S z TI TO i1 i2 l1 l2 : Addr} {xs ys : Array Value} (hh : A.handled = none) (D : ZipApart z TI TO i1 i2 l1 l2) (O : ZOff S z TI TO i1 i2 l1 l2) (hxy : xs.size = ys.size) (hn : xs.size ≤ sizeLine) (res : Value) {h₁ : Heap}
    (hR : ∀ h' tk acc c as, (∀ b o, b ≠ S → b ≠ z → b ≠ TO → b ≠ i1 → b ≠ i2 → h₁.get? b = some o → h'.get? b = some o) → h'.get? S = some { cls := .type "list", dict := none, data := .seq acc c, slots := #[] } → as.length = xs.size → ZG xs ys S h' as →
      acc.toList = as.map Value.ref → R (.ok (.ret res)) { s with heap := h', toks := tk }) :
    ∀ (k i : Nat) (h : Heap) (tk c : Nat) (acc : Array Value) (as : List Addr), xs.size - i = k → i ≤ xs.size → ZSt h S z TI TO i1 i2 l1 l2 xs ys i → (∀ b o, b ≠ S → b ≠ z → b ≠ TO → b ≠ i1 → b ≠ i2 → h₁.get? b = some o → h.get? b = some o) →
      h.get? S = some { cls := .type "list", dict := none, data := .seq acc c, slots := #[] } → acc.toList = as.map Value.ref → as.length = i → ZG xs ys S h as →
      codeAny (model prog w) A (.builtin "list.extend.loop" ⟨[.ref S, .ref z, res], []⟩) R { s with heap := h, toks := tk } := by
  have nz := Nat.ne_of_gt O.z
  have nTO := Nat.ne_of_gt O.TO
  have n1 := Nat.ne_of_gt O.i1
  have n2 := Nat.ne_of_gt O.i2
  intro k
  induction k with
  | zero =>
    intro i h tk c acc as hk hi hst hkeep hS hacc hal hG
    have hin : i = xs.size := by omega
    refine codeAny_builtin PySem.F.entry_extend_loop ?_
    rw [Around.under_plainId PySem.F.plain_extend_loop _]
    show wpAny _ A.in1 (pyNext (.ref z) >>= _) _ _ _
    refine wpAny_bind (zst_done (s := { s with heap := h, toks := tk }) (A := A.in1) hh D hst (.inl (Array.getElem?_eq_none (by omega))) fun h' he => ?_)
    refine wpAny_pure (hR h' tk acc c as (fun b o h0 h1 h2 h3 h4 e => he b o h1 h2 h3 h4 (hkeep b o h0 h1 h2 h3 h4 e)) (he S _ nz nTO n1 n2 hS) (by omega) ⟨hG.rise, hG.above, fun j a hj => ?_⟩ hacc)
    obtain ⟨x, y, e1, e2, e3⟩ := hG.pairs j a hj
    have ha := hG.above a (List.mem_of_getElem? hj)
    exact ⟨x, y, e1, e2, he a _ (Nat.ne_of_gt (Nat.lt_trans O.z ha)) (Nat.ne_of_gt (Nat.lt_trans O.TO ha)) (Nat.ne_of_gt (Nat.lt_trans O.i1 ha)) (Nat.ne_of_gt (Nat.lt_trans O.i2 ha)) e3⟩
  | succ k ih =>
    intro i h tk c acc as hk hi hst hkeep hS hacc hal hG
    have hlt : i < xs.size := by omega
    have ex := Array.getElem?_eq_getElem hlt
    have ey := Array.getElem?_eq_getElem (xs := ys) (i := i) (by omega)
    have hsz : acc.size = i := by rw [← Array.length_toList, hacc, List.length_map, hal]
    have hSl : S < h.objs.size := Heap.lt_size hS
    refine codeAny_builtin PySem.F.entry_extend_loop ?_
    rw [Around.under_plainId PySem.F.plain_extend_loop _]
    show wpAny _ A.in1 (pyNext (.ref z) >>= _) _ _ _
    refine wpAny_bind (zst_item (s := { s with heap := h, toks := tk }) D hst hSl ex ey fun h' hst' ht hkp => ?_)
    dsimp only at ht hkp ⊢
    have hS' := hkp S _ nz nTO n1 n2 hS
    have up : ∀ b o, b ≠ S → h'.get? b = some o → (h'.update S (Obj.mapSeq (·.push (Value.ref h.objs.size)))).get? b = some o := fun b o hb e => (Heap.get?_update_other _ _ (Ne.symm hb)).trans e
    show wpAny _ A.in1 (updateSeq S (·.push (Value.ref h.objs.size)) >>= _) _ _ _
    refine wpAny_bind ?_
    refine wpAny_updateSeq hS' rfl (wpAny_pure ⟨plainId_quiet PySem.F.plain_extend_loop _, ih (i + 1) _ tk _ (acc.push (Value.ref h.objs.size)) (as ++ [h.objs.size]) (by omega) hlt (hst'.keep O up)
      (fun b o h0 h1 h2 h3 h4 e => up b o h0 (hkp b o h1 h2 h3 h4 (hkeep b o h0 h1 h2 h3 h4 e))) (Heap.get?_update_self _ hS' rfl) (by rw [Array.toList_push, hacc, List.map_append]; rfl) (by rw [List.length_append, hal]; rfl) ⟨?_, ?_, ?_⟩⟩) (by rw [hsz]; omega) (by show (acc.push (Value.ref h.objs.size)).size ≤ sizeLine + 1; rw [Array.size_push, hsz]; omega)
    · refine List.pairwise_append.mpr ⟨hG.rise, List.pairwise_singleton _ _, fun a ha b hb => ?_⟩
      rw [List.mem_singleton.mp hb]
      exact hG.there ha
    · intro a ha
      rcases List.mem_append.mp ha with ha | ha
      · exact hG.above a ha
      · rw [List.mem_singleton.mp ha]; exact hSl
    · intro j b hj
      rcases Nat.lt_trichotomy j as.length with h1 | h1 | h1
      · rw [List.getElem?_append_left h1] at hj
        obtain ⟨x', y', e1, e2, e3⟩ := hG.pairs j b hj
        have hb := hG.above b (List.mem_of_getElem? hj)
        exact ⟨x', y', e1, e2, up b _ (Nat.ne_of_gt hb) (hkp b _ (Nat.ne_of_gt (Nat.lt_trans O.z hb)) (Nat.ne_of_gt (Nat.lt_trans O.TO hb)) (Nat.ne_of_gt (Nat.lt_trans O.i1 hb)) (Nat.ne_of_gt (Nat.lt_trans O.i2 hb)) e3)⟩
      · subst h1
        have hb : h.objs.size = b := by simpa using hj
        subst hb
        exact ⟨_, _, by rw [hal]; exact ex, by rw [hal]; exact ey, up _ _ (Nat.ne_of_gt hSl) ht⟩
      · have hnone : (as ++ [h.objs.size])[j]? = none := List.getElem?_eq_none (by rw [List.length_append, List.length_singleton]; omega)
        rw [hnone] at hj; cases hj
theorem zip_extend {S z TI TO i1 i2 l1 l2 : Addr} {xs ys : Array Value} (hh : A.handled = none) (D : ZipApart z TI TO i1 i2 l1 l2) (O : ZOff S z TI TO i1 i2 l1 l2) (hxy : xs.size = ys.size) (hn : xs.size ≤ sizeLine) (res : Value) (c₀ : Nat)
    (hz : IsZip s.heap z TI TO .none) (hTI : IsPair s.heap TI (.ref i1) (.ref i2)) (hTO : ∃ a b, IsPair s.heap TO a b) (h1 : s.heap.IsListIter i1 l1 0) (h2 : s.heap.IsListIter i2 l2 0) (hl1 : s.heap.IsList l1 xs) (hl2 : s.heap.IsList l2 ys)
    (hS : s.heap.get? S = some { cls := .type "list", data := .seq #[] c₀ })
    (hR : ∀ h' tk acc c as, (∀ b o, b ≠ S → b ≠ z → b ≠ TO → b ≠ i1 → b ≠ i2 → s.heap.get? b = some o → h'.get? b = some o) → h'.get? S = some { cls := .type "list", dict := none, data := .seq acc c, slots := #[] } → as.length = xs.size → ZG xs ys S h' as →
      acc.toList = as.map Value.ref → R (.ok (.ret res)) { s with heap := h', toks := tk }) :
    wpAny (model prog w) A.in1 (Builtin.List.listExtendWith (.ref S) (.ref z) res)
      (fun fin s' => match fin with | .done f => R (.ok f) s' | .again c' => c'.quiet = true ∧ codeAny (model prog w) A c' R s') (fun e s' => R (.error e) s') s := by
  have hT : s.TypeIs (.ref z) "zip" := ⟨_, hz, rfl⟩
  have st0 : ZSt s.heap S z TI TO i1 i2 l1 l2 xs ys 0 := ⟨hTI, h1, h2, hl1, hl2, .inl ⟨hz, hTO⟩⟩
  have hSz : S ≠ z := Nat.ne_of_gt O.z
  unfold Builtin.List.listExtendWith
  refine wpAny_bind (wpAny_typeOf (T := "zip") hT ?_)
  have e1 : Builtin.List.listSameRef (.ref S) (.ref z) = false := by simp [Builtin.List.listSameRef, hSz]
  have e2 : (Value.type "zip" == Value.type "list") = false := by decide
  have e3 : (Value.type "zip" == Value.type "tuple") = false := by decide
  simp only [e1, e2, e3, Bool.or_false, Bool.false_eq_true, if_false]
  refine wpAny_bind (wpAny_pyIter_zip hz ?_)
  refine wpAny_bind (wpAny_holding (hint_zip hT ?_))
  refine wpAny_ite_split (fun _ => ?_) (fun hab => absurd rfl hab)
  refine wpAny_bind (wpAny_rule ?_)
  refine wpAny_bind ?_
  show wpAny _ _ (updateSeq S (·.push .none) >>= fun _ => updateSeq S (·.pop)) _ _ _
  refine wpAny_bind (wpAny_updateSeq hS rfl ?_)
  have hS₂ := Heap.get?_update_self (Obj.mapSeq (·.push Value.none)) hS rfl
  refine wpAny_updateSeq (hz := by seq_fits) hS₂ rfl ?_
  have hS₃ := Heap.get?_update_self (Obj.mapSeq (·.pop)) hS₂ rfl
  have up : ∀ b o, b ≠ S → s.heap.get? b = some o → ((s.heap.update S (Obj.mapSeq (·.push Value.none))).update S (Obj.mapSeq (·.pop))).get? b = some o := fun b o hb e => (Heap.get?_update_other _ _ (Ne.symm hb)).trans ((Heap.get?_update_other _ _ (Ne.symm hb)).trans e)
  exact wpAny_pure ⟨plainId_quiet PySem.F.plain_extend_loop _, zip_loop (s := s) (h₁ := s.heap) hh D O hxy hn res hR xs.size 0 _ s.toks _ #[] [] (Nat.sub_zero _) (Nat.zero_le _) (st0.keep O up) (fun b o hb _ _ _ _ e => up b o hb e) hS₃ rfl rfl
    ⟨List.Pairwise.nil, (fun _ ha => nomatch ha), (fun j a hj => by simp at hj)⟩⟩
theorem zip_init {S z TI TO i1 i2 l1 l2 : Addr} {xs ys : Array Value} (hh : A.handled = none) (D : ZipApart z TI TO i1 i2 l1 l2) (O : ZOff S z TI TO i1 i2 l1 l2) (hxy : xs.size = ys.size) (hn : xs.size ≤ sizeLine)
    (hz : IsZip s.heap z TI TO .none) (hTI : IsPair s.heap TI (.ref i1) (.ref i2)) (hTO : ∃ a b, IsPair s.heap TO a b) (h1 : s.heap.IsListIter i1 l1 0) (h2 : s.heap.IsListIter i2 l2 0) (hl1 : s.heap.IsList l1 xs) (hl2 : s.heap.IsList l2 ys)
    (hS : s.heap.get? S = some { cls := .type "list", data := .seq #[] })
    (hR : ∀ h' tk acc c as, (∀ b o, b ≠ S → b ≠ z → b ≠ TO → b ≠ i1 → b ≠ i2 → s.heap.get? b = some o → h'.get? b = some o) → h'.get? S = some { cls := .type "list", dict := none, data := .seq acc c, slots := #[] } → as.length = xs.size → ZG xs ys S h' as →
      acc.toList = as.map Value.ref → R (.ok (.ret .none)) { s with heap := h', toks := tk }) :
    wpAny (model prog w) A.in1 (Builtin.«list.__init__» ⟨[.ref S, .ref z], []⟩)
      (fun fin s' => match fin with | .done f => R (.ok f) s' | .again c' => c'.quiet = true ∧ codeAny (model prog w) A c' R s') (fun e s' => R (.error e) s') s := by
  show wpAny _ _ (do let old ← Builtin.List.listItems (.ref S); Builtin.List.listUpdate (.ref S) (fun _ => #[]); letGo old.toList.reverse; Builtin.List.listExtendWith (.ref S) (.ref z) .none) _ _ s
  refine wpAny_bind ?_
  unfold Builtin.List.listItems
  refine wpAny_bind (wpAny_seqItems hS rfl (wpAny_pure ?_))
  show wpAny _ _ (updateSeq S (fun _ => #[]) >>= fun _ => letGo (#[] : Array Value).toList.reverse >>= fun _ => Builtin.List.listExtendWith (.ref S) (.ref z) .none) _ _ s
  refine wpAny_bind (wpAny_updateSeq hS rfl ?_)
  have hS₂ := Heap.get?_update_self (Obj.mapSeq (fun _ => (#[] : Array Value))) hS rfl
  have oth : ∀ b o, b ≠ S → s.heap.get? b = some o → (s.heap.update S (Obj.mapSeq (fun _ => (#[] : Array Value)))).get? b = some o :=
    fun b o hb e => (Heap.get?_update_other _ _ (Ne.symm hb)).trans e
  have lt : ∀ {b}, b < S → b ≠ S := fun h => Nat.ne_of_lt h
  refine wpAny_bind (wpAny_letGo ?_)
  obtain ⟨a, b, hTO⟩ := hTO
  refine zip_extend hh D O hxy hn .none _ (oth _ _ (lt O.z) hz) (oth _ _ (lt O.TI) hTI) ⟨a, b, oth _ _ (lt O.TO) hTO⟩ (h1.at fun o e => oth _ o (lt O.i1) e) (h2.at fun o e => oth _ o (lt O.i2) e) (hl1.at fun o e => oth _ o (lt O.l1) e) (hl2.at fun o e => oth _ o (lt O.l2) e) hS₂ fun h' tk acc c as hk hS' hl hG hacc => ?_
  exact hR h' tk acc c as (fun b o h0 h1 h2 h3 h4 e => hk b o h0 h1 h2 h3 h4 (oth b o h0 e)) hS' hl hG hacc
theorem call_list_zip {E : Value → Shared → Prop} {z TI TO i1 i2 l1 l2 : Addr} {xs ys : Array Value} {Q : Value → Shared → Prop} (hh : A.handled = none) (D : ZipApart z TI TO i1 i2 l1 l2) (hxy : xs.size = ys.size) (hn : xs.size ≤ sizeLine)
    (hz : IsZip s.heap z TI TO .none) (hTI : IsPair s.heap TI (.ref i1) (.ref i2)) (hTO : ∃ a b, IsPair s.heap TO a b) (h1 : s.heap.IsListIter i1 l1 0) (h2 : s.heap.IsListIter i2 l2 0) (hl1 : s.heap.IsList l1 xs) (hl2 : s.heap.IsList l2 ys)
    (hQ : ∀ h' tk acc c as, (∀ b o, b ≠ z → b ≠ TO → b ≠ i1 → b ≠ i2 → s.heap.get? b = some o → h'.get? b = some o) → h'.get? s.heap.objs.size = some { cls := .type "list", dict := none, data := .seq acc c, slots := #[] } → as.length = xs.size → ZG xs ys s.heap.objs.size h' as →
      acc.toList = as.map Value.ref → Q (.ref s.heap.objs.size) { s with heap := h', toks := tk }) :
    wpAny (model prog w) A (call (.type "list") [.ref z]) Q E s := by
  refine callType_codes (Q₁ := fun obj s₁ => obj = .ref s.heap.objs.size ∧ s₁ = { s with heap := s.heap.push { cls := .type "list", data := .seq #[] } }) PySem.F.called_list (PySem.F.typeCall_list_1 _) PySem.F.entry_list_init
    (code_list_new _ ⟨rfl, rfl⟩) fun obj s₁ h₁ => ?_
  obtain ⟨rfl, rfl⟩ := h₁
  have hS : (s.heap.push { cls := .type "list", data := .seq #[] }).get? s.heap.objs.size = some { cls := .type "list", data := .seq #[] } := Heap.get?_push_size _ rfl
  have k0 : ∀ b o, s.heap.get? b = some o → (s.heap.push { cls := .type "list", data := .seq #[] }).get? b = some o := fun b o e => Heap.get?_push_of_some _ e
  obtain ⟨a, b, hTO⟩ := hTO
  have O : ZOff s.heap.objs.size z TI TO i1 i2 l1 l2 := ⟨Heap.lt_size hz, Heap.lt_size hTI, Heap.lt_size hTO, let ⟨_, e, _⟩ := h1; Heap.lt_size e, let ⟨_, e, _⟩ := h2; Heap.lt_size e, let ⟨_, e, _⟩ := hl1; Heap.lt_size e, let ⟨_, e, _⟩ := hl2; Heap.lt_size e⟩
  refine ⟨⟨_, hS, rfl⟩, PySem.F.args_list_init_2 _ _, zip_init (A := A.in1) hh D O hxy hn (k0 _ _ hz) (k0 _ _ hTI) ⟨a, b, k0 _ _ hTO⟩ (h1.at fun o e => k0 _ o e) (h2.at fun o e => k0 _ o e) (hl1.at fun o e => k0 _ o e) (hl2.at fun o e => k0 _ o e) hS (fun h' tk acc c as hk hS' hl hG hacc => ?_)⟩
  exact ⟨rfl, hQ h' tk acc c as (fun b o h1 h2 h3 h4 e => hk b o (Nat.ne_of_lt (Heap.lt_size e)) h1 h2 h3 h4 (k0 b o e)) hS' hl hG hacc⟩
end
end L2

set_option Elab.async false
set_option linter.all false
set_option maxRecDepth 100000
set_option maxHeartbeats 8000000
namespace L2
open PySem PySem.Spec PyProof.Rows
section
variable {X : Cx}
/-- many new objects told at once -/
theorem Inv.many {pins : List (Addr × Obj)} {σ : St} {H H' : Hp} {s : Shared} {h' : Heap} {t' : Nat} (I : Inv X pins σ H s) (k : ∀ b u, s.heap.get? b = some u → h'.get? b = some u) (agree : ∀ b, b < s.heap.objs.size → H' b = H b)
    (new : ∀ b o, s.heap.objs.size ≤ b → H' b = some o → ObjOk X.prog X.w H' h' b o) : Inv X pins σ H' { s with heap := h', toks := t' } := by
  have ag : ∀ b o, H b = some o → H' b = some o := fun b o e => by rw [agree b (I.hok.lt e)]; exact e
  refine I.un ⟨fun b u q _ _ _ => k b u q, fun b u q _ _ _ => ⟨u.slots, k b u q⟩, fun b u q n _ => by rw [agree b (Heap.lt_size q)]; exact n, fun b u q _ => ⟨u, k b u q⟩, fun b xs q => ag b _ q, fun b u xs q => ag b _ q, fun b ps q => ⟨#[], by rw [ag b _ q]; simp⟩⟩ fun b u e => ?_
  by_cases hb : b < s.heap.objs.size
  · rw [agree b hb] at e
    exact (I.hok b u e).stay (fun c v _ q => k c v q) (fun c q => ag c _ q) fun c xs q => ag c _ q
  · exact new b u (Nat.le_of_not_lt hb) e
theorem lookup_zip {α : Type} : ∀ (as : List Addr) (ps : List α) (j : Nat) (a : Addr) (p : α), as.Pairwise (· < ·) → as[j]? = some a → ps[j]? = some p → (as.zip ps).lookup a = some p
  | [], _, j, a, p, _, h, _ => by simp at h
  | b :: as, [], j, a, p, _, _, h => by simp at h
  | b :: as, q :: ps, j, a, p, hp, h1, h2 => by
    rw [List.pairwise_cons] at hp
    cases j with
    | zero => cases h1; cases h2; simp [List.lookup]
    | succ j =>
      have h1' : as[j]? = some a := h1
      have hlt := hp.1 a (List.mem_of_getElem? h1')
      have hne : (a == b) = false := beq_eq_false_iff_ne.mpr (Nat.ne_of_gt hlt)
      rw [List.zip_cons_cons, List.lookup_cons, hne]
      exact lookup_zip as ps j a p hp.2 h1' h2
theorem lookup_zip_inv {α : Type} : ∀ (as : List Addr) (ps : List α) (a : Addr) (p : α), (as.zip ps).lookup a = some p → ∃ j : Nat, as[j]? = some a ∧ ps[j]? = some p
  | [], _, a, p, h => by simp at h
  | b :: as, [], a, p, h => by simp at h
  | b :: as, q :: ps, a, p, h => by
    rw [List.zip_cons_cons, List.lookup_cons] at h
    cases e : (a == b) with
    | true =>
      rw [e] at h
      have : a = b := eq_of_beq e
      subst this
      cases h
      exact ⟨0, rfl, rfl⟩
    | false =>
      rw [e] at h
      obtain ⟨j, h1, h2⟩ := lookup_zip_inv as ps a p h
      exact ⟨j + 1, h1, h2⟩
/-- the heap with a new list of new pairs -/
def layZ (H : Hp) (S : Addr) (as : List Addr) (xs ys : List V) : Hp := fun b => if b = S then some (.lst (as.map V.ref)) else match (as.zip (xs.zip ys)).lookup b with
  | some p => some (.tup [p.1, p.2])
  | none => H b
def tListZip (K : PySem.W.Frag) (ta : TA) : TE := fun σ H Q => ta σ H fun vs H1 => ∃ a b xs ys, vs = [.ref a, .ref b] ∧ SqL K H1 a xs ∧ SqL K H1 b ys ∧ xs.length = ys.length ∧
  ∀ l H' (as : List Addr), Same H1 H' → H1 l = none → H' l = some (.lst (as.map V.ref)) → as.length = xs.length → (∀ (j : Nat) (T : Addr) (x y : V), as[j]? = some T → xs[j]? = some x → ys[j]? = some y → H' T = some (.tup [x, y])) → Q (.ref l) H'
theorem pe_listZip {e e2 : Expr} {ta : TA} {p p2 pos pos2 : Pos} (hcalm : X.calm = true) (hgl : Gl X "list") (hml : X.mg "list" = none) (hvl : bootBuiltins "list" = some (.type "list")) (hg : Gl X "zip") (hm : X.mg "zip" = none) (ha : PA X [e, e2] ta)
    (hs : starEach [e, e2] X.env = (false, eval e X.env) :: starEach [e2] X.env := by rfl) (hpl : (backTo pos2 (starEach [e2] X.env)).any (·.1) = false := by rfl)
    (hs2 : starEach [.Call (.Name "zip" p2) [e, e2] [] pos2] X.env = (false, eval (.Call (.Name "zip" p2) [e, e2] [] pos2) X.env) :: starEach [] X.env := by rfl) :
    PE X (.Call (.Name "list" p) [.Call (.Name "zip" p2) [e, e2] [] pos2] [] pos) (tListZip X.K ta) := by
  refine ⟨fun pins s σ H Q I h => ?_⟩
  refine wpAny_Call_Name_kw (ld_blt I hgl hml hvl ?_)
  refine PyProof.Rows.callWith_type1 ?_ hs2 rfl
  rw [hs2]
  show wpAny _ _ (spliced ((false, eval (.Call (.Name "zip" p2) [e, e2] [] pos2) X.env) :: backTo pos (starEach [] X.env))) _ _ s
  refine Calls.spliced_cons ?_
  refine Call_ (ld_blt I hg hm PyProof.Rows.boot_zip (PyProof.Rows.callWith_type1 (thn (ha.run pos2 pins s σ H _ I h) fun us s1 ⟨vs, H1, I1, r1, q1⟩ => ?_) hs hpl))
  obtain ⟨a, b, xs, ys, ex, hqx, hqy, hl, q⟩ := q1
  subst ex
  cases r1 with
  | cons r rr =>
    cases rr with
    | cons r' rr =>
      cases rr
      cases r
      cases r'
      obtain ⟨its, rv, p1, z1⟩ := I1.list hqx
      obtain ⟨its2, rv2, p2, _⟩ := I1.list hqy
      have l1 := rv.length
      have l2 := rv2.length
      refine call_zip_2 p1.isList p2.isList fun h' hz hTI hTO h1 h2 hsz hk => ?_
      refine Calls.spliced_nil ?_
      refine call_list_zip (s := { s1 with heap := h' }) (I1.ok.hd hcalm) (PySem.W.ktu_apart s1.heap.objs.size a b p1.lt p2.lt) (xs := its.toArray) (ys := its2.toArray) (by rw [List.size_toArray, List.size_toArray]; omega) (by rw [List.size_toArray]; omega) hz hTI ⟨_, _, hTO⟩ h1 h2
        (p1.isList.at fun o e => hk _ o e) (p2.isList.at fun o e => hk _ o e) fun h2' tk acc c as hk2 hS hal hG hacc => ?_
      dsimp only at hk2 hS hG ⊢
      rw [List.size_toArray] at hal
      have hkk : ∀ b u, s1.heap.get? b = some u → h2'.get? b = some u := fun b u e => by
        have lt := Heap.lt_size e
        exact hk2 b u (Nat.ne_of_lt (Nat.lt_add_right 4 lt)) (Nat.ne_of_lt (Nat.lt_add_right 3 lt)) (Nat.ne_of_lt lt) (Nat.ne_of_lt (Nat.lt_add_right 1 lt)) (hk b u e)
      have hab : ∀ a ∈ as, s1.heap.objs.size + 5 < a := fun a ha => by rw [← hsz]; exact hG.above a ha
      have hpair : ∀ (j : Nat) (T : Addr) (x y : V), as[j]? = some T → xs[j]? = some x → ys[j]? = some y → ∃ u v, RelV x u ∧ RelV y v ∧ IsPair h2' T u v := by
        intro j T x y e1 e2 e3
        obtain ⟨u, v, g1, g2, g3⟩ := hG.pairs j T e1
        obtain ⟨u', k1, k2⟩ := rv.get e2
        obtain ⟨v', k3, k4⟩ := rv2.get e3
        rw [List.getElem?_toArray] at g1 g2
        rw [k1] at g1; cases g1
        rw [k3] at g2; cases g2
        exact ⟨u, v, k2, k4, g3⟩
      have hSl : s1.heap.objs.size ≤ h'.objs.size := by omega
      have hSn : H1 h'.objs.size = none := I1.hok.fresh hSl
      have hno : ∀ b, b < s1.heap.objs.size + 5 → (as.zip (xs.zip ys)).lookup b = none := fun b hb => by
        cases e : (as.zip (xs.zip ys)).lookup b with
        | none => rfl
        | some p =>
          obtain ⟨j, e1, _⟩ := lookup_zip_inv _ _ _ _ e
          exact absurd (Nat.lt_trans hb (hab b (List.mem_of_getElem? e1))) (Nat.lt_irrefl _)
      have hagree : ∀ b, b < s1.heap.objs.size → layZ H1 h'.objs.size as xs ys b = H1 b := fun b hb => by
        unfold layZ
        rw [if_neg (Nat.ne_of_lt (Nat.lt_of_lt_of_le hb hSl)), hno b (Nat.lt_add_right 5 hb)]
      have hlen2 : as.length ≤ sizeLine := by omega
      refine ⟨.ref h'.objs.size, layZ H1 h'.objs.size as xs ys, I1.many (t' := tk) hkk hagree ?_, rfl, q _ _ as ?_ hSn ?_ (by omega) ?_⟩
      · intro b o hb e
        unfold layZ at e
        by_cases hbS : b = h'.objs.size
        · subst hbS
          rw [if_pos rfl] at e
          cases e
          refine ⟨by rw [List.length_map]; exact hlen2, as.map Value.ref, c, ?_, ?_⟩
          · clear hG hacc hal hab hpair hno hagree hlen2
            induction as with
            | nil => exact .nil
            | cons a as ih => exact .cons rfl ih
          · have : acc = (as.map Value.ref).toArray := by rw [← hacc]
            rw [hS, this]
        · rw [if_neg hbS] at e
          cases el : (as.zip (xs.zip ys)).lookup b with
          | none =>
            rw [el] at e
            rw [I1.hok.fresh hb] at e
            cases e
          | some p =>
            rw [el] at e
            cases e
            obtain ⟨j, e1, e2⟩ := lookup_zip_inv _ _ _ _ el
            obtain ⟨e3, e4⟩ := List.getElem?_zip_eq_some.mp e2
            obtain ⟨u, v, k1, k2, k3⟩ := hpair j b p.1 p.2 e1 e3 e4
            exact ⟨by show 2 ≤ sizeLine; decide, [u, v], .cons k1 (.cons k2 .nil), _, k3, rfl, _, rfl⟩
      · intro b o e
        rw [hagree b (I1.hok.lt e)]
        exact e
      · unfold layZ
        rw [if_pos rfl]
      · intro j T x y e1 e2 e3
        unfold layZ
        have hT := hab T (List.mem_of_getElem? e1)
        rw [if_neg (Nat.ne_of_gt (by rw [hsz]; exact hT)), lookup_zip as (xs.zip ys) j T (x, y) hG.rise e1 (List.getElem?_zip_eq_some.mpr ⟨e2, e3⟩)]
end
end L2

set_option Elab.async false
set_option linter.all false
set_option maxRecDepth 100000
set_option maxHeartbeats 8000000
namespace L2
open PySem PySem.Spec PyProof.Rows
open Lk (In Six Bd SixR Wt Below)
/-! ## dicts by words -/
def kW (w : List Int) : List Key := w.map Sum.inl
theorem kW_v (w : List Int) : (kW w).map kV = w.map V.int := by
  unfold kW
  rw [List.map_map]
  rfl
theorem kW_inj {w u : List Int} (h : kW w = kW u) : w = u := by
  have e : ∀ w : List Int, (kW w).map (fun k => match k with | .inl i => i | .inr _ => 0) = w := fun w => by
    unfold kW
    rw [List.map_map]
    exact List.map_id _
  rw [← e w, h, e u]
def kvW (ws : List (List Int)) (vs : List V) : List (List Key × V) := (ws.zip vs).map fun p => (kW p.1, p.2)
theorem val_at {κ : Type} [DecidableEq κ] : ∀ (kvs : List (κ × V)) (i : Nat) (k : κ) (v : V), (kvs.map (·.1)).Nodup → kvs[i]? = some (k, v) → valV kvs k = some v
  | [], i, k, v, _, h => by simp at h
  | p :: kvs, i, k, v, hn, h => by
    rw [List.map_cons, List.nodup_cons] at hn
    cases i with
    | zero => cases h; exact valV_pos rfl
    | succ i =>
      have h' : kvs[i]? = some (k, v) := h
      have hm : k ∈ kvs.map (·.1) := List.mem_map.mpr ⟨_, List.mem_of_getElem? h', rfl⟩
      have hne : p.1 ≠ k := fun e => hn.1 (e ▸ hm)
      have := val_at kvs i k v hn.2 h'
      unfold valV at this ⊢
      rw [List.find?_cons, decide_eq_false hne]
      exact this
theorem nodup_kW {ws : List (List Int)} (h : ws.Nodup) : (ws.map kW).Nodup := by
  unfold List.Nodup at *
  rw [List.pairwise_map]
  exact h.imp fun hne e => hne (kW_inj e)
theorem keys_kvW : ∀ (ws : List (List Int)) (vs : List V), ws.length = vs.length → (kvW ws vs).map (·.1) = ws.map kW
  | [], vs, _ => by simp [kvW]
  | w :: ws, [], h => by simp at h
  | w :: ws, v :: vs, h => by
    have := keys_kvW ws vs (by simpa using h)
    unfold kvW at this ⊢
    rw [List.zip_cons_cons, List.map_cons, List.map_cons, this, List.map_cons]
theorem DGet.w {H : Hp} {a b : Addr} {ws : List (List Int)} {vs : List V} {i : Nat} {w : List Int} {v : V} (e : H a = some (.dT (kvW ws vs))) (eb : H b = some (.tup (w.map V.int))) (hn : ws.Nodup) (hl : ws.length = vs.length) (hw : ws[i]? = some w) (hv : vs[i]? = some v) : DGet H a (.ref b) (some v) := by
  have k : valV (kvW ws vs) (kW w) = some v := by
    refine val_at _ i _ _ (by rw [keys_kvW ws vs hl]; exact nodup_kW hn) ?_
    unfold kvW
    rw [List.getElem?_map, List.getElem?_zip_eq_some (z := (w, v)) |>.mpr ⟨hw, hv⟩]
    rfl
  rw [← k]
  exact DGet.t e (by rw [kW_v]; exact eb)
theorem WdAll.uncons {H : Hp} {xs : List V} {w : List Int} {ws : List (List Int)} (h : WdAll H xs (w :: ws)) : ∃ a xs', xs = .ref a :: xs' ∧ H a = some (.tup (w.map V.int)) ∧ WdAll H xs' ws := by
  cases xs with
  | nil => exact absurd h.1 (by simp)
  | cons x xs =>
    obtain ⟨a, e1, e2⟩ := h.2 0 w rfl
    cases e1
    exact ⟨a, xs, rfl, e2, by simpa using h.1, fun i u hu => h.2 (i + 1) u hu⟩
/-- the pairs of a new dict -/
theorem tri_zip {K : PySem.W.Frag} {H : Hp} : ∀ (ws : List (List Int)) (as : List Addr) (xs ys : List V), as.length = ws.length → WdAll H xs ws → ys.length = ws.length →
    (∀ (j : Nat) (T : Addr) (x y : V), as[j]? = some T → xs[j]? = some x → ys[j]? = some y → H T = some (.tup [x, y])) →
    ∃ ts : List Tri, (ts.map fun t => V.ref t.1) = as.map V.ref ∧ (∀ t ∈ ts, SqT K H t.1 [.ref t.2.2.1, t.2.2.2] ∧ H t.2.2.1 = some (.tup (t.2.1.map kV))) ∧ (ts.map fun t => (t.2.1, t.2.2.2)) = kvW ws ys
  | [], as, xs, ys, h1, _, _, _ => ⟨[], by rw [List.length_eq_zero_iff.mp h1]; rfl, fun t (ht : t ∈ ([] : List Tri)) => absurd ht List.not_mem_nil, by simp [kvW]⟩
  | w :: ws, [], xs, ys, h1, _, _, _ => by simp at h1
  | w :: ws, T :: as, xs, [], _, _, h3, _ => by simp at h3
  | w :: ws, T :: as, xs, y :: ys, h1, h2, h3, h4 => by
    obtain ⟨a, xs', rfl, e2, e3⟩ := h2.uncons
    obtain ⟨ts, g1, g2, g3⟩ := tri_zip ws as xs' ys (by simpa using h1) e3 (by simpa using h3) fun j T x y p1 p2 p3 => h4 (j + 1) T x y p1 p2 p3
    refine ⟨(T, kW w, a, y) :: ts, by rw [List.map_cons, List.map_cons, g1], fun t ht => ?_, ?_⟩
    · rcases List.mem_cons.mp ht with rfl | ht
      · exact ⟨SqT.of (h4 0 T _ y rfl rfl rfl), by rw [kW_v]; exact e2⟩
      · exact g2 t ht
    · rw [List.map_cons, g3]; rfl
theorem words_nodup : ∀ wide ∈ [2, 3], ∀ n ∈ [0, 1, 2, 3, 4], (Lk.words wide n).Nodup := by decide +kernel
theorem words_nd {wide n : Nat} (hw : wide = 2 ∨ wide = 3) (h4 : n ≤ 4) : (Lk.words wide n).Nodup := by
  refine words_nodup wide ?_ n ?_
  · rcases hw with rfl | rfl <;> simp
  · simp; omega
theorem words_pre {wide n : Nat} {w : List Int} (h : w ∈ Lk.words wide n) (k : Nat) : w.take k ∈ Lk.words wide n := by
  obtain ⟨h1, h2⟩ := Lk.len_words n w h
  exact Lk.mem_words n _ (by rw [List.length_take]; omega) fun c hc => h2 c (List.mem_of_mem_take hc)
theorem slA_to {K : PySem.W.Frag} {H : Hp} {a : Addr} {xs : List V} {m : Nat} {Q : VK} (h : H a = some (.tup xs)) (q : ∀ p H', Same H H' → H' p = some (.tup (xs.take m)) → Q (.ref p) H') : rSlA K (.ref a) none (some (m : Int)) H Q := by
  refine ⟨a, xs, rfl, SqT.of h, fun e => ?_, fun _ p hp => ?_⟩
  · have e2 := e.2
    rw [HT.sIx_nat] at e2
    refine q a H (Same.refl _) ?_
    rw [List.take_of_length_le (by omega)]
    exact h
  · refine q p _ (same_upd hp) ?_
    have hc : cutV xs none (some (m : Int)) = xs.take m := by
      unfold cutV
      rw [HT.sIx_nat, HT.sIx_none, List.drop_zero, Nat.sub_zero]
      by_cases hm : m ≤ xs.length
      · rw [Nat.min_eq_left hm]
      · rw [Nat.min_eq_right (by omega), List.take_length, List.take_of_length_le (by omega)]
    rw [hc]
    exact upd_same
theorem op_eqK {X : Cx} {K : PySem.W.Frag} (h : X.K = K) (hu : X.A.units + 64 < cLine) : OpR X (compareOp .Eq) (rEqD K) := h ▸ op_eqD hu

theorem eqv_nil (w : List Int) : PyData.eqv (dW w) (dW []) = decide (w = []) := by
  cases w with
  | nil => simp [dW, PyData.eqv, PyData.eqvAll]
  | cons a w => simp [dW, PyData.eqv, PyData.eqvAll]
section
variable {P : Program} {w : World} {K : PySem.W.Frag} {mg : Str → Option Value} {base : Heap}
def spSeries (K : PySem.W.Frag) : Sp := fun vs H Q _ => ∃ v r l xs, ∃ wide n : Nat, vs = [v, .ref l] ∧ Dp K H v (dR r) ∧ SixR r ∧ r.length ≤ 20 ∧ (wide = 2 ∨ wide = 3) ∧ n ≤ 4 ∧ H l = some (.lst xs) ∧ WdAll H xs (Lk.words wide n) ∧
  ∀ H' l' ys, Same H H' → H' l' = some (.lst ys) → DpAll K H' ys (((Lk.words wide n).map (Lk.worth r)).map dF) → Q (.ref l') H'
abbrev sSeries : Stmt := topS 45
abbrev nSeries : List Str := ["_law_flows_so", "_law_words_so", "_law_worths_so", "_law_spots_so", "_law_one_so", "_law_far", "_law_next_so", "_law_own", "_law_total_so", "_law_much_so", "_law_k"]
theorem scSeries : FnScope nSeries ["_law_flows_so", "_law_words_so"] (defScope sSeries) := ⟨rfl, rfl, rfl, by decide +kernel, rfl, by decide +kernel, by decide +kernel⟩
theorem ok_series (D : Df K mg "_law_series" sSeries ["_law_flows_so", "_law_words_so"]) (T : Tx K mg) (GL : Ok' P w K mg base "_law_low" ["_law_top_so", "_law_down_so"] 2 (spFraction K)) (GA : Ok' P w K mg base "_law_add" ["_law_own", "_law_far"] 2 (sp2 K fun x y => x + y)) (GM : Ok' P w K mg base "_law_mul" ["_law_own", "_law_far"] 2 (sp2 K fun x y => x * y)) :
    Ok' P w K mg base "_law_series" ["_law_flows_so", "_law_words_so"] 3 (spSeries K) := by
  refine D.ok scSeries (fun vs H Q E h => ?_) (fun f cdv A outer s H vs Q E hr h => ?_)
  · obtain ⟨v, r, l, xs, wide, n, rfl, _⟩ := h; rfl
  · obtain ⟨v, r, l, xs, wide, n, rfl, hv, h6, hlr, hw, hn, hl, hx, q⟩ := h
    refine ⟨_, pss_cons (ps_setLc (i := 2) (own := [("_law_own", 7)]) (g := gName 7) (tt := tYes) rfl scSeries.nd rfl rfl (by rfl) (pi_list (pv 1))
        (blkOk_by (N := nSeries) (sc := defScope sSeries) (by decide +kernel)) (fun _ _ _ _ _ => pg_name (i := 7) scSeries.nd rfl (Or.inl rfl)) (fun _ _ _ _ _ => pts_nil)
        (fun _ _ _ _ _ => pe_tup (pa_cons (pe_callTy call_int1 (by rfl) T.int (by decide +kernel) (pa_cons (pe_cmpR (op_eqK (K := K) rfl hr.units) (pv 7) (pe_tup pa_nil) (nomark _)) pa_nil)) (pa_cons pe_int pa_nil))))
      (pss_cons (ps_set (i := 3) scSeries.nd rfl (.inl rfl) (pe_callTy (call_dictT rfl hr.units) (by rfl) T.dict (by decide +kernel) (pa_cons (pe_lc (own := [("_law_k", 10), ("_law_own", 7)]) (g := gTup K 2 (gCons (gName 10) (gCons (gName 7) gNil))) (tt := tYes) rfl scSeries.nd (pi_enum (by rfl) T.enumerate (pa_cons (pv 1) pa_nil))
        (blkOk_by (N := nSeries) (sc := defScope sSeries) (by decide +kernel)) (fun _ _ _ _ _ => pg_tup rfl (pgs_cons (pg_name (i := 10) scSeries.nd rfl (Or.inl rfl)) (pgs_cons (pg_name (i := 7) scSeries.nd rfl (Or.inl rfl)) pgs_nil))) (fun _ _ _ _ _ => pts_nil)
        (fun _ _ _ _ _ => pe_tup (pa_cons (pv 7) (pa_cons (pv 10) pa_nil)))) pa_nil)))
      (pss_cons (ps_for PassesOwn.never rfl (pi_tup (pv 0)) (pg_tup rfl (pgs_cons (pg_name (i := 4) scSeries.nd rfl (Or.inl rfl)) (pgs_cons (pg_name (i := 5) scSeries.nd rfl (Or.inl rfl)) pgs_nil)))
        (pss_cons (ps_set (i := 6) scSeries.nd rfl (.inl rfl) (pe_lst pa_nil))
        (pss_cons (ps_for PassesOwn.never rfl (pi_list (pv 1)) (pg_name (i := 7) scSeries.nd rfl (Or.inl rfl))
          (pss_cons (ps_par (i := 8) (j := 9) (by rfl) scSeries.nd rfl rfl (by decide) rfl rfl (pa_cons (pe_ix ix_list (pv 2) (pe_dget (Nat.lt_of_le_of_lt (Nat.add_le_add_left (show 1 ≤ 64 by decide) _) hr.units) (pv 3) (pv 7) (fun _ _ => rfl)) (fun _ _ => rfl)) (pa_cons (pe_tup (pa_cons pe_int (pa_cons pe_int pa_nil))) pa_nil)) (by rfl))
          (pss_cons (ps_for PassesOwn.never rfl (pi_range2 (by rfl) T.range (pa_cons pe_int (pa_cons (pe_op op_add (pe_callB call_len_seq (by rfl) T.len PySem.boot_len (pa_cons (pv 7) pa_nil)) pe_int) pa_nil))) (pg_name (i := 10) scSeries.nd rfl (Or.inl rfl))
            (pss_cons (ps_if (pt_cmpR op_ne (pe_ix ix_tup (pv 7) (pe_op op_sub (pe_callB call_len_seq (by rfl) T.len PySem.boot_len (pa_cons (pv 7) pa_nil)) (pv 10)) (fun _ _ => rfl)) (pv 4) (nomark _)) (pss_one ps_break) pss_nil)
            (pss_cons (ps_set (i := 9) scSeries.nd rfl (.inl rfl) (pe_cf GM hr (pa_cons (pv 9) (pa_cons (pe_cf GL hr (pa_cons (pe_ix ix_tup (pv 5) pe_int (fun _ _ => rfl)) (pa_cons (pe_op op_mulW (pe_ix ix_tup (pv 5) pe_int (fun _ _ => rfl)) (pv 10)) pa_nil))) pa_nil))))
            (pss_one (ps_set (i := 8) scSeries.nd rfl (.inl rfl) (pe_cf GA hr (pa_cons (pv 8) (pa_cons (pe_cf GM hr (pa_cons (pe_ix ix_list (pv 2) (pe_dget (Nat.lt_of_le_of_lt (Nat.add_le_add_left (show 1 ≤ 64 by decide) _) hr.units) (pv 3) (pe_slice sl_tupA (pv 7) po_none (po_some (pe_op op_sub (pe_callB call_len_seq (by rfl) T.len PySem.boot_len (pa_cons (pv 7) pa_nil)) (pv 10)))) (fun _ _ => rfl)) (fun _ _ => rfl)) (pa_cons (pv 9) pa_nil))) pa_nil))))))))
          (pss_one (ps_expr (pe_bm PySem.F.plainAttrs_list PySem.F.slot_list_append PySem.F.type_list_append mt_append (pv 6) (pa_cons (pv 8) pa_nil)))))))
        (pss_one (ps_set (i := 2) scSeries.nd rfl (.inl rfl) (pv 6))))))
      (pss_one (ps_ret (pv 2))))), ?_⟩
    have hxl := hx.1
    have hwl : (Lk.words wide n).length ≤ 405 := Nat.le_trans (len_wordsB (by omega) n hn) (Nat.mul_le_mul_left 81 (Nat.succ_le_succ hn))
    refine ⟨.ref l, rfl, l, rfl, ⟨xs, SqL.of hl⟩, fun D1 hD1 => ?_⟩
    refine lc_map (K := K) (walk_list (K := K) (a := l) (xs := xs)) (((Lk.words wide n).map fun w => Lk.eps w.reverse).map dF) (by rw [List.length_map, List.length_map]; exact hxl.symm) (by omega) (nol_Fs _) hD1 (fun H' s' => SqL.of (s' _ _ hl)) yat_same ?_ gName_mono ?_
    · rintro i x H2 H3 d R ed s2 ⟨rfl, hx2⟩ hR
      rw [List.getElem?_map, List.getElem?_map] at ed
      cases hi : (Lk.words wide n)[i]? with
      | none => rw [hi] at ed; cases ed
      | some wd =>
        rw [hi] at ed
        cases ed
        obtain ⟨a, e1, e2⟩ := hx.2 i wd hi
        rw [hx2] at e1
        cases e1
        refine ⟨rfl, _, rfl, Nat.zero_le _, fun p0 hp0 => ?_⟩
        have t0 := same_upd (o := .tup []) hp0
        refine ⟨dW wd, dW [], Dp.mkW (SqT.of (t0 _ _ (s2 _ _ e2))), Dp.mkW (SqT.of upd_same), (pl_W _).sh (by decide), (pl_W _).sh (by decide), .inr ⟨_, rfl, by show 2 ≤ sizeLine; decide, fun t ht => ?_⟩⟩
        refine hR _ _ (t0.new ht) (Dp.mkF (SqT.of ?_))
        rw [upd_same, eqv_nil]
        by_cases hz : wd = []
        · subst hz; rfl
        · have e0 : Lk.eps wd.reverse = 0 := if_neg (by simpa using hz)
          show _ = some (HO.tup [V.int (Lk.eps wd.reverse).num, V.int ((Lk.eps wd.reverse).den : Int)])
          rw [e0, decide_eq_false hz]
          rfl
    · intro H2 ws0 s2 hw0 ha0
      refine ⟨.ref l, rfl, l, xs, rfl, SqL.of (s2 _ _ hl), fun D2 hD2 => ?_⟩
      refine lc_it (walk_enum (K := K) (a := l) (xs := xs)) (fun i H' => ∃ as : List Addr, H' D2 = some (.lst (as.map V.ref)) ∧ Same H2 H' ∧ as.length = i ∧ i ≤ xs.length ∧ ∀ (j : Nat) (T : Addr) (x : V), as[j]? = some T → xs[j]? = some x → H' T = some (.tup [x, .int (j : Nat)]))
        ⟨[], upd_same, same_upd hD2, rfl, Nat.zero_le _, fun j T x hj => by simp at hj⟩ (fun i H' _ hp => by obtain ⟨as, _, s', _⟩ := hp; exact SqL.of ((s2.trans s') _ _ hl)) ?_ ?_
      · rintro i x H3 H4 hi ⟨as, k1, k2, k3, k4, k5⟩ ⟨t, x1, y1, rfl, gt, rfl, ex, ey⟩
        cases ex
        have ey : xs[i]? = some y1 := ey
        have g0 := same_upd (o := .tup [.int (i : Nat), y1]) gt
        refine ⟨t, _, rfl, SqT.of upd_same, rfl, _, _, rfl, _, _, rfl, rfl, rfl, ?_⟩
        refine ⟨_, rfl, _, rfl, by show 2 ≤ sizeLine; decide, fun T hT => ?_⟩
        have g1 := same_upd (o := .tup [y1, .int (i : Nat)]) hT
        have k1' := g1 _ _ (g0 _ _ k1)
        refine ⟨as.map V.ref, k1', by rw [List.length_map]; (have : 1000 < sizeLine := by decide); omega, as ++ [T], by rw [upd_same, List.map_append]; rfl, ((k2.trans g0).trans g1).put hD2, by rw [List.length_append, k3]; rfl, hi, fun j T' x' h1 h2 => ?_⟩
        by_cases hj : j < as.length
        · rw [List.getElem?_append_left hj] at h1
          have e3 := g1 _ _ (g0 _ _ (k5 j T' x' h1 h2))
          rw [upd_ne (ne_of e3 k1' (by intro z; cases z))]
          exact e3
        · obtain rfl : j = as.length := by
            have := (List.getElem?_eq_some_iff.mp h1).1
            simp at this
            omega
          rw [List.getElem?_append_right (Nat.le_refl _), Nat.sub_self] at h1
          cases h1
          rw [k3] at h2 ⊢
          rw [ey] at h2
          cases h2
          rw [upd_ne (ne_of upd_same k1' (by intro z; cases z))]
          exact upd_same
      · rintro H3 ⟨as, k1, k2, k3, k4, k5⟩
        obtain ⟨ts, g1, g2, g3⟩ := tri_zip (K := K) (H := H3) (Lk.words wide n) as xs ((List.range xs.length).map fun i => V.int (i : Nat)) (by omega) (hx.same (s2.trans k2)) (by simp; omega) (fun j T x y e1 e2 e3 => by
          have hj := (List.getElem?_eq_some_iff.mp e2).1
          rw [List.getElem?_map, List.getElem?_range hj] at e3
          cases e3
          exact k5 j T x e1 e2)
        refine ⟨D2, ts, rfl, SqL.of (by rw [g1]; exact k1), g2, ?_, fun S hS => ?_⟩
        · have : (ts.map fun t => t.2.1) = (kvW (Lk.words wide n) ((List.range xs.length).map fun i => V.int (i : Nat))).map (·.1) := by rw [← g3, List.map_map]; rfl
          rw [this, keys_kvW _ _ (by simp; omega)]
          exact nodup_kW (words_nd hw hn)
        · rw [g3]
          have sS := same_upd (o := .dT (kvW (Lk.words wide n) ((List.range xs.length).map fun i => V.int (i : Nat)))) hS
          have s3 := s2.trans (k2.trans sS)
          obtain ⟨a, ys, rfl, hs, ha⟩ := hv.R
          have hlen : ys.length = r.length := by rw [ha.length, List.length_map]
          refine ⟨.ref a, rfl, a, rfl, ⟨_, Same.tk s3 _ _ hs⟩, ?_⟩
          refine for_it (walk_tup (K := K) (xs := ys)) (fun i σ H' => ∃ W ws c4 c5 c6 c7 c8 c9 c10, σ = [some (.ref a), some (.ref l), some (.ref W), some (.ref S), c4, c5, c6, c7, c8, c9, c10] ∧ H' W = some (.lst ws) ∧ Same (upd H3 S (.dT (kvW (Lk.words wide n) ((List.range xs.length).map fun i => V.int (i : Nat))))) H' ∧
            DpAll K H' ws (((Lk.words wide n).map fun w => Lk.on (r.take i) Lk.eps w.reverse).map dF))
            ⟨D1, ws0, none, none, none, none, none, none, none, rfl, (k2.trans sS) _ _ hw0, Same.refl _, ?_⟩ (fun i σ H' _ hp => by obtain ⟨_, _, _, _, _, _, _, _, _, _, _, h3, _⟩ := hp; exact Same.tk (s3.trans h3) _ _ hs) ?_ ?_
          · rw [List.take_zero]
            exact ha0.same (k2.trans sS)
          · rintro i x σ H4 H5 hi ⟨W, ws, c4, c5, c6, c7, c8, c9, c10, rfl, m1, m2, m3⟩ ⟨rfl, hx3⟩
            obtain ⟨d, e1, e2⟩ := ha.at hx3
            rw [List.getElem?_map] at e1
            cases er : r[i]? with
            | none => rw [er] at e1; cases e1
            | some pr =>
            rw [er] at e1; cases e1
            obtain ⟨p, x⟩ := pr
            have hSx : Six x := h6 (p, x) (List.mem_of_getElem? er)
            obtain ⟨b, fv, rfl, hb, hf⟩ := (e2.same (s3.trans m2)).P
            obtain ⟨bf, rfl, hbf⟩ := hf.F
            refine ⟨b, _, rfl, hb, rfl, _, _, rfl, _, _, rfl, rfl, ?_⟩
            refine ⟨Nat.zero_le _, fun Nx hNx => ?_⟩
            have sN := same_upd (o := .lst []) hNx
            have hl5 := sN _ _ (m2 _ _ (s3 _ _ hl))
            refine ⟨.ref l, rfl, l, rfl, ⟨xs, SqL.of hl5⟩, ?_⟩
            obtain ⟨F, eF⟩ : ∃ F, F = Lk.on (r.take i) Lk.eps := ⟨_, rfl⟩
            have eE : Lk.on (r.take (i + 1)) Lk.eps = Lk.E p x F := by
              rw [List.take_add_one, er, show (r.take i ++ (some (p, x)).toList) = r.take i ++ [(p, x)] from rfl, Lk.on_snoc, eF]
            rw [eE]
            rw [← eF] at m3
            refine for_it (walk_list (K := K) (a := l) (xs := xs)) (fun j σ H' => ∃ c7 c8 c9 c10 zs, σ = [some (.ref a), some (.ref l), some (.ref W), some (.ref S), some (.int p), some (.ref bf), some (.ref Nx), c7, c8, c9, c10] ∧ H' Nx = some (.lst zs) ∧ Same H5 H' ∧
              DpAll K H' zs ((((Lk.words wide n).take j).map fun w => Lk.E p x F w.reverse).map dF))
              ⟨c7, c8, c9, c10, [], rfl, upd_same, sN, .nil⟩ (fun j σ H' _ hp => by obtain ⟨_, _, _, _, _, _, _, h, _⟩ := hp; exact SqL.of (h _ _ (m2 _ _ (s3 _ _ hl)))) ?_ ?_
            · rintro j y σ H6 H7 hj ⟨c7, c8, c9, c10, zs, rfl, n1, n2, n3⟩ ⟨rfl, hy⟩
              obtain ⟨wd, hwd⟩ : ∃ wd, (Lk.words wide n)[j]? = some wd := ⟨(Lk.words wide n)[j]'(by omega), by simp⟩
              obtain ⟨aw, e3, e4⟩ := hx.2 j wd hwd
              rw [hy] at e3
              cases e3
              have hwm := List.mem_of_getElem? hwd
              have hw4 : wd.length ≤ 4 := Nat.le_trans (Lk.len_words n wd hwm).1 hn
              have sH := s3.trans (m2.trans n2)
              have hwt := sH _ _ e4
              have hS7 := n2 _ _ (m2 _ _ upd_same)
              have hsl : (Lk.words wide n).length = ((List.range xs.length).map fun i => V.int (i : Nat)).length := by simp; omega
              have spot : ∀ {u : List Int} {i : Nat}, (Lk.words wide n)[i]? = some u → ((List.range xs.length).map fun i => V.int (i : Nat))[i]? = some (V.int (i : Nat)) := fun {u i} hu => by
                have := (List.getElem?_eq_some_iff.mp hu).1
                rw [List.getElem?_map, List.getElem?_range (by omega)]; rfl
              obtain ⟨tv, ht1, ht2⟩ := m3.get (i := j) (d := dF (F wd.reverse)) (by rw [List.getElem?_map, List.getElem?_map, hwd]; rfl)
              refine ⟨_, rfl, _, rfl, _, rfl, S, _, rfl, DGet.w hS7 hwt (words_nd hw hn) hsl hwd (spot hwd), W, ws, _, _, rfl, rfl, SqL.of (n2 _ _ m1), atI_nat ht1, ?_⟩
              refine ⟨by show 2 ≤ sizeLine; decide, fun one hone => ?_⟩
              have s1 := same_upd (o := .tup [.int 1, .int 1]) hone
              refine ⟨_, _, rfl, ?_⟩
              refine ⟨_, rfl, aw, _, rfl, .inr (SqT.of (s1 _ _ hwt)), _, _, rfl, rfl, _, _, rfl, ⟨by decide, by decide, by omega, by rw [List.length_map]; omega⟩, ?_⟩
              rw [show (((wd.map V.int).length : Int) + 1 - 1).toNat = wd.length by rw [List.length_map]; omega]
              have ht1' : tv = tv := rfl
              -- the append
              have fin : ∀ (H8 : Hp) (total : Rat) (tv mv : V) (c10 : Option V), Same H7 H8 → Dp K H8 tv (dF total) → Lk.E p x F wd.reverse = total → tDrop (tBM K "list" rAppend (tVar 6) (tCons (tVar 8) tNil))
                  { nx := fun σ H' => ∃ c7 c8 c9 c10 zs, σ = [some (.ref a), some (.ref l), some (.ref W), some (.ref S), some (.int p), some (.ref bf), some (.ref Nx), c7, c8, c9, c10] ∧ H' Nx = some (.lst zs) ∧ Same H5 H' ∧
                      DpAll K H' zs ((((Lk.words wide n).take (j + 1)).map fun w => Lk.E p x F w.reverse).map dF), rt := Q }
                  [some (.ref a), some (.ref l), some (.ref W), some (.ref S), some (.int p), some (.ref bf), some (.ref Nx), some (.ref aw), some tv, some mv, c10] H8 := by
                intro H8 total tv mv c10 s8 hd8 e
                have k1 := s8 _ _ n1
                have hzl : zs.length ≤ 405 := by
                  rw [n3.length, List.length_map, List.length_map, List.length_take]
                  omega
                refine ⟨_, rfl, .inl ⟨rfl, _, SqL.of k1⟩, _, rfl, Nx, zs, tv, rfl, rfl, k1, small1000 (by omega), ?_⟩
                refine ⟨_, _, _, _, _, rfl, upd_same, (n2.trans s8).put hNx, ?_⟩
                rw [List.take_add_one, hwd, Option.toList_some, List.map_append, List.map_append, List.map_singleton, List.map_singleton, e]
                exact ((n3.same s8).snoc hd8).tk (by intro d hd; rcases List.mem_append.mp hd with hd | hd; exact nol_Fs _ d hd; exact nol_Fs [total] d hd) (tk_updL k1)
              have hM : 1 * 2 ^ (40 * (r.take i).length) ≤ 2 ^ 900 := by
                rw [Nat.one_mul]
                exact two_lt (by rw [List.length_take]; omega)
              have hBd : Bd (1 * 2 ^ (40 * (r.take i).length)) F wd.reverse := by
                rw [eF]
                exact Bd.on (by simpa using hw4) (r.take i) Lk.eps 1 (fun a ha' => h6 a (List.mem_of_mem_take ha')) (Bd.eps _)
              generalize 1 * 2 ^ (40 * (r.take i).length) = M at hM hBd
              have hB' : ∀ k, k ≤ wd.length → In (144 ^ k) M (F (wd.take k).reverse) := fun k hk => by
                have := hBd _ (rev_suffix wd k)
                rw [List.length_reverse, List.length_take, Nat.min_eq_left hk] at this
                exact this
              refine for_it (walk_range (lo := 1) (n := wd.length)) (fun k σ H' => ∃ (total term : Rat) (tv mv : V) (c10 : Option V), σ = [some (.ref a), some (.ref l), some (.ref W), some (.ref S), some (.int p), some (.ref bf), some (.ref Nx), some (.ref aw), some tv, some mv, c10] ∧ Same H7 H' ∧ Dp K H' tv (dF total) ∧ Dp K H' mv (dF term) ∧
                  In (144 ^ k) (576 ^ k) term ∧ In (144 ^ wd.length) (M * ((k + 1) * 576 ^ k)) total ∧ total + Lk.go p x F (k + 1) term (wd.take (wd.length - k)).reverse = Lk.E p x F wd.reverse)
                ⟨F wd.reverse, 1, tv, .ref one, c10, rfl, s1, ht2.same (n2.trans s1), Dp.mkF (x := 1) (SqT.of upd_same), In.one, ?_, ?_⟩ (fun _ _ _ _ _ => True.intro) ?_ ?_
              · have := hB' wd.length (Nat.le_refl _)
                rw [List.take_length] at this
                exact this.mono (by simp)
              · rw [Nat.sub_zero, List.take_length]; rfl
              · rintro k y σ H8 H9 hk ⟨total, term, tv, mv, c10, rfl, s4, hd1, hd2, hi1, hi2, he⟩ ⟨rfl, rfl⟩
                obtain ⟨here, hh⟩ : ∃ here, wd.length = here + (k + 1) := ⟨wd.length - (k + 1), by omega⟩
                obtain ⟨c, hc⟩ : ∃ c, wd[here]? = some c := ⟨wd[here]'(by omega), by simp⟩
                have hcw : (wd.map V.int)[here]? = some (.int c) := by rw [List.getElem?_map, hc]; rfl
                rw [show wd.length - k = here + 1 by omega, take_rev hc] at he
                have hwt9 := s4 _ _ hwt
                refine ⟨_, rfl, _, rfl, aw, _, rfl, .inr (SqT.of hwt9), _, rfl, _, _, rfl, rfl, aw, _, _, _, rfl, rfl, SqT.of hwt9, at_of (j := here) (by rw [List.length_map]; omega) hcw, _, rfl, rfl, _, rfl, ?_⟩
                by_cases hcp : c = p
                · refine ifF (by rw [dVeq hcp]; rfl) ?_
                  subst hcp
                  simp only [Lk.go, if_true] at he
                  have hSz : Sz x := six_sz hSx (Nat.le_trans (show 24 ≤ 2 ^ 5 by decide) (two_lt (by decide)))
                  have hk1 : k + 1 < 2 ^ 1000 := Nat.lt_of_lt_of_le (show k + 1 < 2 ^ 3 by omega) (two_lt (by decide))
                  have hbf9 := Same.tk (K := K) (n2.trans s4) _ _ hbf
                  refine ⟨_, rfl, _, rfl, bf, _, _, _, rfl, rfl, hbf9, rfl, _, rfl, bf, _, _, _, rfl, rfl, hbf9, rfl, _, rfl, _, _, rfl, rfl, ?_, ?_⟩
                  · exact wide_mul (a := 1000) (b := 1000) (by rw [den_abs]; exact hSz.2) (by have := (sz_nat (k := k + 1) (by omega)).1; rw [show (1 : Int) + (k : Int) = ((k + 1 : Nat) : Int) by omega, Int.natAbs_natCast]; exact hk1) (by decide) (by decide) (by decide)
                  refine ⟨x.num, x.den * (k + 1), ?_, Nat.mul_ne_zero x.den_nz (Nat.succ_ne_zero k), Nat.lt_trans hSz.1 (Nat.pow_lt_pow_right (by decide) (by decide)), ?_, fun H10 lv s10 hlv => ?_⟩
                  · show [V.int x.num, V.int ((x.den : Int) * (1 + (k : Int)))] = [V.int x.num, V.int ((x.den * (k + 1) : Nat) : Int)]
                    rw [show (1 : Int) + (k : Int) = ((k + 1 : Nat) : Int) by omega, Int.natCast_mul]
                  · refine sz_big ?_
                    rw [show (2000 : Nat) = 1000 + 1000 from rfl, Nat.pow_add]
                    exact Nat.mul_lt_mul'' hSz.2 hk1
                  rw [mk_over x (Nat.succ_ne_zero k)] at hlv
                  have hq : In 144 576 (x / ((k + 1 : Nat) : Rat)) := Lk.six_quot hSx (by omega) (by omega)
                  refine ⟨mv, lv, term, x / ((k + 1 : Nat) : Rat), rfl, hd2.same s10, hlv, in_sz hi1 (p144 (by omega)).1 (p144 (by omega)).2 (p576 (by omega)), in_sz hq (by decide) (by have := (p144 (n := 1) (by decide)).2; omega) (by have := p576 (j := 1) (by decide); omega), fun H11 nv s11 hnv => ?_⟩
                  have ht := step_term hi1 hSx (k := k + 1) (by omega) (by omega)
                  have s79 := s4.trans (s10.trans s11)
                  have hwt11 := s79 _ _ hwt
                  refine ⟨_, rfl, _, rfl, _, rfl, _, rfl, ?_⟩
                  dsimp only [tNoPart]
                  refine ⟨_, rfl, aw, _, rfl, .inr (SqT.of hwt11), _, rfl, _, _, rfl, rfl, _, rfl, ?_⟩
                  have hix : (((wd.map V.int).length : Nat) : Int) - (1 + (k : Int)) = ((here : Nat) : Int) := by rw [List.length_map]; omega
                  show rSlA K (.ref aw) none (some ((((wd.map V.int).length : Nat) : Int) - (1 + (k : Int)))) H11 _
                  rw [hix]
                  refine slA_to hwt11 fun pp H12 s12 hpp => ?_
                  rw [← List.map_take] at hpp
                  obtain ⟨j2, hj2⟩ := List.mem_iff_getElem?.mp (words_pre hwm here)
                  obtain ⟨gv, g1, g2⟩ := m3.get (i := j2) (d := dF (F (wd.take here).reverse)) (by rw [List.getElem?_map, List.getElem?_map, hj2]; rfl)
                  have s712 := s79.trans s12
                  refine ⟨S, _, rfl, DGet.w (s712 _ _ hS7) hpp (words_nd hw hn) hsl hj2 (spot hj2), W, ws, _, _, rfl, rfl, SqL.of (s712 _ _ (n2 _ _ m1)), atI_nat g1, _, rfl, ?_⟩
                  refine ⟨gv, nv, _, _, rfl, g2.same (n2.trans s712), hnv.same s12, in_sz (hB' here (by omega)) (p144 (by omega)).1 (p144 (by omega)).2 ?_, in_sz ht (p144 (by omega)).1 (p144 (by omega)).2 (p576 (by omega)), fun H13 pv' s13 hpv => ?_⟩
                  · have h4 : 2 ^ 900 < 2 ^ 1000 := Nat.pow_lt_pow_right (by decide) (by decide)
                    omega
                  have hp1 := step_part (n := wd.length) (hB' here (by omega)) ht (by omega)
                  refine ⟨tv, pv', total, _, rfl, ((hd1.same (s10.trans s11)).same s12).same s13, hpv, in_sz hi2 (p144 (by omega)).1 (p144 (by omega)).2 (tot_bound (by omega) hM), in_sz hp1 (p144 (by omega)).1 (p144 (by omega)).2 ?_, fun H14 sv s14 hsv => ?_⟩
                  · refine Nat.lt_of_le_of_lt ?_ (tot_bound (M := M) (j := k + 1) (by omega) hM)
                    exact Nat.mul_le_mul_left _ (Nat.le_mul_of_pos_left _ (by omega))
                  refine ⟨_, _, sv, nv, _, rfl, (s712.trans s13).trans s14, hsv, ((hnv.same s12).same s13).same s14, ht, step_tot hi2 hp1, ?_⟩
                  rw [← he, show wd.length - (k + 1) = here by omega]
                  grind
                · refine ifT (by rw [dVne hcp]; rfl) ?_
                  refine fin H9 total tv mv _ s4 hd1 ?_
                  rw [← he]
                  simp only [Lk.go, if_neg hcp]
                  grind
              · rintro σ H8 ⟨total, term, tv, mv, c10, rfl, s4, hd1, hd2, hi1, hi2, he⟩
                refine fin H8 total tv mv c10 s4 hd1 ?_
                rw [← he, Nat.sub_self, List.take_zero, List.reverse_nil]
                simp only [Lk.go]
                grind
            · rintro σ H6 ⟨c7, c8, c9, c10, zs, rfl, n1, n2, n3⟩
              rw [hxl, List.take_length] at n3
              exact ⟨_, rfl, Nx, zs, _, _, _, _, _, _, _, rfl, n1, m2.trans n2, n3⟩
          · rintro σ H4 ⟨W, ws, c4, c5, c6, c7, c8, c9, c10, rfl, m1, m2, m3⟩
            rw [hlen, List.take_length] at m3
            exact ⟨_, rfl, q _ _ _ (s3.trans m2) m1 m3⟩
end
end L2

set_option Elab.async false
set_option linter.all false
set_option maxRecDepth 100000
set_option maxHeartbeats 8000000
namespace L2
open PySem PySem.Spec PyProof.Rows
/-! ## the LYNDON WORDS one behind the other -/
def repW (w : List Int) (n : Nat) : List Int := (List.range n).map fun i => w.getD (i % w.length) 0
def nxtR (m : Int) : List Int → Option (List Int)
  | [] => none
  | c :: r => if c = m then nxtR m r else some (r.reverse ++ [c + 1])
def nxt (wide n : Nat) (w : List Int) : Option (List Int) := nxtR ((wide : Int) - 1) (repW w n).reverse
def chainF (wide n : Nat) : Nat → List Int → List (List Int)
  | 0, _ => []
  | k + 1, w => w :: match nxt wide n w with
    | none => []
    | some u => chainF wide n k u
def chain (wide n : Nat) : List (List Int) := chainF wide n 40 [0]
def keyW (w : List Int) : PyData := .tuple [.int (w.length : Nat), dW w]
theorem chain_facts : ∀ wide ∈ [2, 3], ∀ n ∈ [1, 2, 3, 4], (chain wide n).length ≤ 39 ∧ (∀ i ∈ List.range 40, (chain wide n)[i]?.all (fun w => decide (nxt wide n w = (chain wide n)[i + 1]?) && decide (w ≠ []) && decide (w.length ≤ 4)) = true) := by decide +kernel
theorem lynd_inc : ∀ wide ∈ [2, 3], ∀ n ∈ [1, 2, 3, 4], (Lk.lynd wide n).Pairwise (fun a b => PySem.W.dataLe false keyW a b = true ∧ PySem.W.dataLe false keyW b a = false) := by decide +kernel
theorem chain_perm : ∀ wide ∈ [2, 3], ∀ n ∈ [1, 2, 3, 4], ((chain wide n).isPerm (Lk.lynd wide n)) = true := by decide +kernel
theorem perm_sorted_eq {α : Type} {le : α → α → Bool} : ∀ (l s : List α), s.Perm l → s.Pairwise (fun a b => le a b = true) → l.Pairwise (fun a b => le a b = true ∧ le b a = false) → s = l
  | [], s, hp, _, _ => List.perm_nil.mp hp
  | a :: l, [], hp, _, _ => absurd hp.length_eq (by simp)
  | a :: l, b :: s, hp, hs, hl => by
    rw [List.pairwise_cons] at hs hl
    have e : b = a := by
      have hb : b ∈ a :: l := hp.mem_iff.mp List.mem_cons_self
      have ha : a ∈ b :: s := hp.mem_iff.mpr List.mem_cons_self
      rcases List.mem_cons.mp hb with e | hb
      · exact e
      · rcases List.mem_cons.mp ha with e | ha
        · exact e.symm
        · have h1 := (hl.1 b hb).2
          have h2 := hs.1 a ha
          rw [h2] at h1
          cases h1
    subst e
    rw [perm_sorted_eq l s (List.Perm.cons_inv hp) hs.2 hl.2]
theorem wide_mem {wide n : Nat} (hw : wide = 2 ∨ wide = 3) (h1 : 1 ≤ n) (h4 : n ≤ 4) : wide ∈ [2, 3] ∧ n ∈ [1, 2, 3, 4] := by
  refine ⟨?_, ?_⟩
  · rcases hw with rfl | rfl <;> simp
  · simp; omega
theorem chain_sorted {wide n : Nat} (hw : wide = 2 ∨ wide = 3) (h1 : 1 ≤ n) (h4 : n ≤ 4) : (chain wide n).mergeSort (PySem.W.dataLe false keyW) = Lk.lynd wide n := by
  obtain ⟨m1, m2⟩ := wide_mem hw h1 h4
  exact perm_sorted_eq _ _ ((List.mergeSort_perm _ _).trans (List.isPerm_iff.mp (chain_perm wide m1 n m2))) (PySem.W.sort_pairwise (PySem.W.sortLe_total _ false _) _) (lynd_inc wide m1 n m2)
theorem chain_len {wide n : Nat} (hw : wide = 2 ∨ wide = 3) (h1 : 1 ≤ n) (h4 : n ≤ 4) : (chain wide n).length ≤ 39 := by
  obtain ⟨m1, m2⟩ := wide_mem hw h1 h4
  exact (chain_facts wide m1 n m2).1
theorem chain_step {wide n : Nat} (hw : wide = 2 ∨ wide = 3) (h1 : 1 ≤ n) (h4 : n ≤ 4) {i : Nat} {w : List Int} (h : (chain wide n)[i]? = some w) : nxt wide n w = (chain wide n)[i + 1]? ∧ w ≠ [] ∧ w.length ≤ 4 := by
  obtain ⟨m1, m2⟩ := wide_mem hw h1 h4
  obtain ⟨g1, g2⟩ := chain_facts wide m1 n m2
  have hi := (List.getElem?_eq_some_iff.mp h).1
  have := g2 i (List.mem_range.mpr (by omega))
  rw [h] at this
  simp only [Option.all_some, Bool.and_eq_true, decide_eq_true_eq] at this
  exact ⟨this.1.1, this.1.2, this.2⟩
theorem chain_zero {wide n : Nat} : (chain wide n)[0]? = some [0] := rfl
theorem call_lenK {X : Cx} {K : PySem.W.Frag} (h : X.K = K) : CallR X (.builtin "len") (fun xs H Q => ∃ p ys, xs = [.ref p] ∧ (SqL K H p ys ∨ SqT K H p ys) ∧ Q (.int ys.length) H) := h ▸ call_len_seq
section
variable {P : Program} {w : World} {K : PySem.W.Frag} {mg : Str → Option Value} {base : Heap}
def spNext (K : PySem.W.Frag) : Sp := fun vs H Q _ => ∃ a wd, ∃ wide n : Nat, vs = [.ref a, .int (wide : Int), .int (n : Int)] ∧ SqT K H a (wd.map V.int) ∧ wd ≠ [] ∧ wd.length ≤ 4 ∧ n ≤ 4 ∧
  (nxt wide n wd = none → ∀ H', Same H H' → Q .non H') ∧ (∀ u, nxt wide n wd = some u → ∀ H' p, Same H H' → H' p = some (.tup (u.map V.int)) → Q (.ref p) H')
abbrev sNext : Stmt := topS 22
abbrev nNext : List Str := ["word", "many", "power", "long", "at"]
theorem scNext : FnScope nNext ["word", "many", "power"] (defScope sNext) := ⟨rfl, rfl, rfl, by decide +kernel, rfl, by decide +kernel, by decide +kernel⟩
theorem cut_last {xs : List V} {y : V} : cutV (xs ++ [y]) none (some (-1)) = xs := by
  unfold cutV
  rw [HT.sIx_none, List.drop_zero, Nat.sub_zero]
  have e : HT.sIx (xs ++ [y]).length (xs ++ [y]).length (some (-1)) = xs.length := by
    simp [HT.sIx]
    omega
  rw [e, List.take_left]
theorem ok_next (D : Df K mg "next_lyndon" sNext ["word", "many", "power"]) (T : Tx K mg) : Ok' P w K mg base "next_lyndon" ["word", "many", "power"] 1 (spNext K) := by
  refine D.ok scNext (fun vs H Q E h => ?_) (fun f cdv A outer s H vs Q E hr h => ?_)
  · obtain ⟨a, wd, wide, n, rfl, _⟩ := h; rfl
  · obtain ⟨a, wd, wide, n, rfl, ha, hne, h4, hn, q0, q1⟩ := h
    refine ⟨_, pss_cons (ps_setLc (i := 3) (own := [("at", 4)]) (g := gName 4) (tt := tYes) rfl scNext.nd rfl rfl (by rfl) (pi_range1 (by rfl) T.range (pa_cons (pv 2) pa_nil))
        (blkOk_by (N := nNext) (sc := defScope sNext) (by decide +kernel)) (fun _ _ _ _ _ => pg_name (i := 4) scNext.nd rfl (Or.inl rfl)) (fun _ _ _ _ _ => pts_nil)
        (fun _ _ _ _ _ => pe_ix (ixt (K := K) rfl) (pv 0) (pe_op op_mod (pv 4) (pe_callB (call_lenK (K := K) rfl) (by rfl) T.len PySem.boot_len (pa_cons (pv 0) pa_nil))) (fun _ _ => rfl)))
      (pss_cons (ps_while PassesOwn.never (PW.pt (pw_and (pt_cmpR op_gt (pe_callB call_len_seq (by rfl) T.len PySem.boot_len (pa_cons (pv 3) pa_nil)) pe_int (nomark _)) (pw_and1 (pt_cmpR op_eq (pe_ix ix_list (pv 3) (pe_un un_neg pe_int) (fun _ _ => rfl)) (pe_op op_sub (pv 1) pe_int) (nomark _)))))
        (pss_one (ps_expr (pe_bm0 PySem.F.plainAttrs_list PySem.F.slot_list_pop PySem.F.type_list_pop mt_pop (pv 3)))))
      (pss_cons (ps_if (pt_cmpR op_eq (pe_callB call_len_seq (by rfl) T.len PySem.boot_len (pa_cons (pv 3) pa_nil)) pe_int (nomark _)) (pss_one (ps_ret pe_non)) pss_nil)
      (pss_one (ps_ret (pe_op op_catA (pe_callTy call_tuple_of (by rfl) T.tuple (by decide +kernel) (pa_cons (pe_slice sl_list (pv 3) po_none (po_some (pe_un un_neg pe_int))) pa_nil)) (pe_tup (pa_cons (pe_op op_add (pe_ix ix_list (pv 3) (pe_un un_neg pe_int) (fun _ _ => rfl)) pe_int) pa_nil))))))), ?_⟩
    have z1 : 1 ≤ sizeLine := by decide
    have hs16 : 1000 < sizeLine := by decide
    have hwl : 0 < wd.length := List.length_pos_iff.mpr hne
    refine ⟨_, rfl, _, rfl, by omega, by omega, fun L hL => ?_⟩
    rw [Int.toNat_natCast]
    refine lc_it walk_range (fun i H' => H' L = some (.lst (((List.range i).map fun j => wd.getD (j % wd.length) 0).map V.int)) ∧ Same H H' ∧ i ≤ n) ⟨upd_same, same_upd hL, Nat.zero_le _⟩ (fun _ _ _ _ => True.intro) ?_ ?_
    · rintro i x H2 H3 hi ⟨k1, k2, k3⟩ ⟨rfl, rfl⟩
      have hi : i < n := by omega
      have hm := Nat.mod_lt i hwl
      have hix : ((0 : Int) + (i : Int)) % ((wd.map V.int).length : Int) = ((i % wd.length : Nat) : Int) := by
        rw [Int.zero_add, List.length_map, Int.natCast_emod]
      refine ⟨rfl, _, rfl, _, rfl, _, rfl, a, _, rfl, .inr (Same.tk k2 _ _ ha), _, _, rfl, rfl, (by show (0 : Int) < ((wd.map V.int).length : Int); rw [List.length_map]; omega), a, _, _, .int (wd.getD (i % wd.length) 0), rfl, rfl, Same.tk k2 _ _ ha, ?_, ?_⟩
      · refine at_of (j := i % wd.length) hix ?_
        rw [List.getElem?_map, List.getD_eq_getElem?_getD, List.getElem?_eq_getElem hm]
        rfl
      · refine ⟨_, k1, by rw [List.length_map, List.length_map, List.length_range]; omega, ?_, k2.put hL, hi⟩
        rw [upd_same, List.range_succ, List.map_append, List.map_append]
        rfl
    · rintro H2 ⟨k1, k2, k3⟩
      refine while_by (fun σ H' => ∃ l c4, σ = [some (.ref a), some (.int (wide : Int)), some (.int (n : Int)), some (.ref L), c4] ∧ H' L = some (.lst (l.map V.int)) ∧ Same H H' ∧ l.length ≤ n ∧ nxtR ((wide : Int) - 1) l.reverse = nxt wide n wd)
        (fun _ H' => match H' L with | some (.lst xs) => xs.length | _ => 0) ⟨repW wd n, _, rfl, k1, k2, by unfold repW; rw [List.length_map, List.length_range]; exact Nat.le_refl _, rfl⟩ ?_ ?_
      · rintro σ H3 ⟨l, c4, rfl, g1, g2, g3, g4⟩
        refine ⟨_, rfl, L, _, rfl, .inl (SqL.of g1), _, _, rfl, rfl, _, rfl, ?_⟩
        rcases List.eq_nil_or_concat l with rfl | ⟨l', c, rfl⟩
        · refine ifF (decide_eq_false (by simp)) ?_
          refine ifF rfl ?_
          refine ⟨_, rfl, L, _, rfl, .inl (SqL.of g1), rfl, _, rfl, ?_⟩
          refine ifT rfl ?_
          exact q0 g4.symm _ g2
        · refine ifT (decide_eq_true (by rw [List.length_map, List.length_concat]; omega)) ?_
          rw [List.concat_eq_append] at g1 g3 g4
          rw [List.reverse_append] at g4
          simp only [List.reverse_cons, List.reverse_nil, List.nil_append, List.cons_append, nxtR] at g4
          have hat : atI ((l' ++ [c]).map V.int) (-1) = some (.int c) := atI_m1 (k := l'.length) (by simp) (by simp)
          have hc : ([c].map V.int) = [V.int c] := rfl
          refine ⟨_, rfl, _, rfl, L, _, _, _, rfl, rfl, SqL.of g1, hat, ?_⟩
          refine ⟨_, rfl, _, _, rfl, rfl, rfl, _, rfl, ?_⟩
          by_cases hcm : c = (wide : Int) - 1
          · refine ifT (dVeq hcm) ?_
            rw [if_pos hcm] at g4
            refine ⟨_, rfl, .inl ⟨rfl, _, SqL.of g1⟩, L, _, .int c, rfl, rfl, g1, ?_, ?_⟩
            · rw [List.length_map, List.length_append]
              simp
            · refine ⟨⟨l', _, rfl, ?_, g2.put hL, by simp at g3; omega, g4⟩, ?_⟩
              · rw [upd_same, List.map_append, hc, List.dropLast_concat]
              · rw [upd_same, g1]
                simp
          · refine ifF (dVne hcm) ?_
            rw [if_neg hcm, List.reverse_reverse] at g4
            refine ⟨_, rfl, L, _, rfl, .inl (SqL.of g1), rfl, _, rfl, ?_⟩
            refine ifF (dVne (by simp; omega)) ?_
            refine ⟨_, rfl, ?_⟩
            dsimp only [tNoPart]
            refine ⟨_, rfl, _, rfl, L, _, rfl, SqL.of g1, fun p1 h1 => ?_⟩
            have t1 := same_upd (o := .lst (cutV ((l' ++ [c]).map V.int) none (some (-1)))) h1
            refine ⟨p1, _, rfl, .inl ⟨SqL.of upd_same, fun p2 h2 => ?_⟩⟩
            have t2 := same_upd (o := .tup (cutV ((l' ++ [c]).map V.int) none (some (-1)))) h2
            refine ⟨_, rfl, _, rfl, L, _, _, _, rfl, rfl, SqL.of ((t1.trans t2) _ _ g1), hat, _, _, rfl, rfl, z1, fun p3 h3 => ?_⟩
            have t3 := same_upd (o := .tup [.int (c + 1)]) h3
            have ec : cutV ((l' ++ [c]).map V.int) none (some (-1)) = l'.map V.int := by rw [List.map_append]; exact cut_last
            refine catA_one (SqT.of (t3 _ _ upd_same)) upd_same (by rw [ec, List.length_map]; simp at g3; omega) fun p4 H4 s4 h4 => ?_
            refine q1 _ g4.symm _ _ ((g2.trans ((t1.trans t2).trans t3)).trans s4) ?_
            rw [h4, ec, List.map_append]
            rfl
      · exact fun σ H' R R' hR h => mo_and (mo_test (mo_op mo_I0 (mo_CB mo_len (mo_cons (mo_var 3) mo_nil)) (mo_c _))) (mo_test (mo_op mo_Eq (mo_op mo_IxL (mo_var 3) (mo_un (mo_c _))) (mo_op mo_I0 (mo_var 1) (mo_c _)))) σ H' R R' hR h
end
end L2

set_option Elab.async false
set_option linter.all false
set_option maxRecDepth 100000
set_option maxHeartbeats 8000000
namespace L2
open PySem PySem.Spec PyProof.Rows
open LamX (ExtN Tabs TabB TabS lam_make2 CodeO)
/-! ## sorted(ws, key=lambda own: (len(own), own)) -/
abbrev lamB (a : Str) (p1 p2 p3 p4 p5 : Pos) (kk : Nat) : Expr := .Tuple [.Call (.Name "len" p1) [.Name a p2] [] p3, .Name a p4] kk p5
structure LamSc (scope : Scope) (a : Str) : Prop where
  kind : scope.kind = .function
  co : scope.isCoroutine = false
  gen : scope.isGenerator = false
  cell : ∀ y ∈ scope.names, y.2 ≠ .cell ∧ y.2 ≠ .free
  loc : scope.names.lookup a = some .local
  glob : scope.names.lookup ("len" : Str) = some .globalImplicit
section
variable {prog : Program} {w : World} {A : Around} {E : Value → Shared → Prop} {s : Shared}
theorem lam_turn {Q : Value → Shared → Prop} {q a : Str} {params : Arguments} {scope : Scope} {p1 p2 p3 p4 p5 : Pos} {kk : Nat} {f c' t : Addr} {pm ctv : Value} {items : Array Value} {mg mb : Str → Option Value} (hd : A.depth < recursionLimit)
    (hf : s.heap.get? f = some (PySem.W.kla_obj "<lambda>" q params (lamB a p1 p2 p3 p4 p5 kk) scope [] pm c' ctv)) (hcd : s.heap.CodeRec (.ref c') q) (hlim : s.heap.NoLimit) (hg : s.heap.Ns mainGlobals mg) (hb : s.heap.Ns builtinsNs mb) (hm : mg ("len" : Str) = none) (hmb : mb ("len" : Str) = some (.builtin "len"))
    (ht : IsTup s.heap t items) (hz : (items.size : Int) < 2 ^ 63) (S : LamSc scope a) (hbind : bindArgs (PySem.W.kla_fn "<lambda>" q params (lamB a p1 p2 p3 p4 p5 kk) scope [] pm (.ref c') ctv) ⟨[.ref t], []⟩ = pure [(a, .ref t)]) (hda : (a == ("__debug__" : Str)) = false)
    (h : ∀ h' tk T u, (∀ b o, s.heap.get? b = some o → h'.get? b = some o) → h'.get? T = some { cls := .type "tuple", data := .seq #[.int items.size u, .ref t] } → Q (.ref T) { s with heap := h', toks := tk }) :
    wpAny (model prog w) A (call (.ref f) [.ref t]) Q E s := by
  refine wpAny_call ?_
  refine PySem.W.kla_callFunE hd hf rfl S.co S.gen rfl hcd ?_
  rw [hbind]
  refine wpAny_pure (wpAny_newFunctionEnv (fun y hy => (S.cell y hy).1) (fun y hy => ?_) (fun h₁ hns hsb => ⟨hlim.fresh _ hsb, ?_⟩) S.kind)
  · rw [List.mem_singleton] at hy
    subst hy
    exact S.loc
  show codeAny _ _ (.expr (lamB a p1 p2 p3 p4 p5 kk) (PySem.W.envX q scope s.heap.objs.size f (.ref c') [])) _ _
  have kp : ∀ b o, s.heap.get? b = some o → h₁.get? b = some o := fun b o e => hsb.extBut b o (Nat.ne_of_lt (Heap.lt_size e)) (Heap.get?_push_of_some _ e)
  have ld : ∀ (p : Pos) (s1 : Shared) (Q1 : Value → Shared → Prop) (E1 : Value → Shared → Prop), s1.heap.Ns s.heap.objs.size (fun x => [(a, Value.ref t)].reverse.lookup x) → Q1 (.ref t) s1 →
      wpAny (model prog w) (A.deeper (PySem.W.envX q scope s.heap.objs.size f (.ref c') [])) (eval (.Name a p) (PySem.W.envX q scope s.heap.objs.size f (.ref c') [])) Q1 E1 s1 := fun p s1 Q1 E1 hn q1 =>
    wpAny_Name (wpAny_loadName_local S.kind S.loc hn (by simp [List.lookup]) q1) hda
  refine PySem.W.kla_codeExpr ?_
  refine wpAny_Tuple_spliced ?_
  refine Calls.spliced_cons ?_
  refine wpAny_Call_Name_kw (Calls.Name_function_global S.kind S.glob (Calls.loadGlobal_builtin (hg.keeps kp) hm (hb.keeps kp) hmb ?_))
  refine PyProof.Rows.callWith_builtin1 ?_
  refine Calls.spliced_cons (ld _ _ _ _ hns (Calls.spliced_nil ?_))
  refine len_tuple (ht.keeps kp) hz ?_
  refine Calls.spliced_cons (ld _ _ _ _ hns (Calls.spliced_nil ?_))
  refine ⟨by show 2 ≤ sizeLine; decide, ?_⟩
  exact h _ _ _ _ (fun b o e => Heap.get?_push_of_some _ (kp b o e)) (Heap.get?_push_size _ rfl)
end

theorem alike_ints : ∀ w u : List Int, PySem.W.alikeAll (w.map PyData.int) (u.map PyData.int) = true
  | [], u => by simp [PySem.W.alikeAll]
  | a :: w, [] => by simp [PySem.W.alikeAll]
  | a :: w, b :: u => by
    rw [List.map_cons, List.map_cons, PySem.W.alikeAll, alike_ints w u]
    simp [PySem.W.alike]
theorem alike_keys (ws : List (List Int)) : PySem.W.AllAlike (ws.map keyW) := by
  intro d hd d' hd'
  obtain ⟨w, _, rfl⟩ := List.mem_map.mp hd
  obtain ⟨u, _, rfl⟩ := List.mem_map.mp hd'
  simp [keyW, dW, PySem.W.alike, PySem.W.alikeAll, alike_ints]
theorem sortable_keys (ws : List (List Int)) : PySem.W.Sortable (ws.map keyW) := .inl fun d hd => by
  obtain ⟨w, _, rfl⟩ := List.mem_map.mp hd
  exact ⟨_, _, rfl⟩
theorem depth_key (w : List Int) : (keyW w).depth ≤ 2 := (Pl.tup (n := 1) (l := [.int (w.length : Nat), dW w]) fun d hd => by
  simp only [List.mem_cons, List.not_mem_nil, or_false] at hd
  rcases hd with rfl | rfl
  · exact (Pl.int _).mono (by decide)
  · exact pl_W w).2
theorem reads_ints {h : Heap} : ∀ {w : List Int} {its : List Value}, Vals (w.map V.int) its → ReadsAll h its (w.map PyData.int) []
  | [], its, r => by cases r; exact .nil
  | a :: w, its, r => by
    rw [List.map_cons] at r
    cases r with
    | cons h1 h2 =>
      obtain ⟨t, rfl⟩ := h1
      exact .cons (as := []) (bs := []) (.int a t) (reads_ints h2)
theorem extN_tk {K : PySem.W.Frag} {H H' : Hp} (e : ExtN H H') : Tk K H H' := fun a xs q => by
  rcases q with (q | ⟨o, q⟩) | q
  · exact .inl (.inl (e _ _ q fun ps z => by cases z))
  · exact .inl (.inr ⟨o, e _ _ q fun ps z => by cases z⟩)
  · exact .inr q
theorem extN_seq {K : PySem.W.Frag} {H H' : Hp} {a : Addr} {xs : List V} (e : ExtN H H') (q : SqL K H a xs) : SqL K H' a xs := by
  rcases q with (q | ⟨o, q⟩) | q
  · exact .inl (.inl (e _ _ q fun ps z => by cases z))
  · exact .inl (.inr ⟨o, e _ _ q fun ps z => by cases z⟩)
  · exact .inr q
theorem Same.ext {H H' : Hp} (e : Same H H') : ExtN H H' := ExtN.of e
/-- an item and its word -/
def RW (H : Hp) (h : Heap) (v : Value) (w : List Int) : Prop := ∃ t its, v = .ref t ∧ H t = some (.tup (w.map V.int)) ∧ Vals (w.map V.int) its ∧ IsTup h t its.toArray
def rSortLam (T : List (Addr × Str)) (K : PySem.W.Frag) (x : V) (H1 : Hp) (Q : VK) : Prop := Tabs T H1 ∧ ∃ (l : Addr) (xs : List V) (ws : List (List Int)), x = .ref l ∧ SqL K H1 l xs ∧ WdAll H1 xs ws ∧ ws.length ≤ 1000 ∧ (∀ w ∈ ws, w.length ≤ 1000) ∧
  ∀ H' p ys, ExtN H1 H' → Tabs T H' → H' p = some (.lst ys) → WdAll H' ys (ws.mergeSort (PySem.W.dataLe false keyW)) → Q (.ref p) H'
def tSortLam (T : List (Addr × Str)) (K : PySem.W.Frag) (te : TE) : TE := fun σ H Q => te σ H fun x H1 => rSortLam T K x H1 Q
section
variable {X : Cx}
theorem rw_each {pins : List (Addr × Obj)} {σ : St} {H : Hp} {s : Shared} (I : Inv X pins σ H s) : ∀ {xs : List V} {its : List Value} {ws : List (List Int)}, Vals xs its → WdAll H xs ws → PySem.W.EachIs (RW H s.heap) its ws
  | _, _, [], .nil, _ => .nil
  | _, _, [], .cons _ _, h => absurd h.1 (by simp)
  | _, _, w :: ws, .nil, h => absurd h.1 (by simp)
  | _, _, w :: ws, .cons r rs, h => by
    obtain ⟨a, xs', e, ha, h2⟩ := h.uncons
    cases e
    cases r
    obtain ⟨its, rv, ht, _⟩ := I.tuple (SqT.of ha)
    exact .cons ⟨a, its, rfl, ha, rv, ht⟩ (rw_each I rs h2)
theorem WdAll.cons {H : Hp} {a : Addr} {xs : List V} {w : List Int} {ws : List (List Int)} (h : H a = some (.tup (w.map V.int))) (h2 : WdAll H xs ws) : WdAll H (.ref a :: xs) (w :: ws) := (WdAll.one h).append h2
theorem each_rw {H : Hp} {h : Heap} : ∀ {out : List Value} {ws : List (List Int)}, PySem.W.EachIs (RW H h) out ws → ∃ ys, Vals ys out ∧ WdAll H ys ws ∧ ys.length = ws.length
  | _, _, .nil => ⟨[], .nil, .nil, rfl⟩
  | _, _, .cons (b := w) r rs => by
    obtain ⟨t, its, rfl, h1, _, _⟩ := r
    obtain ⟨ys, g1, g2, g3⟩ := each_rw rs
    exact ⟨.ref t :: ys, .cons rfl g1, .cons h1 g2, by rw [List.length_cons, List.length_cons, g3]⟩
theorem WdAll.ext {H H' : Hp} {vs : List V} {ws : List (List Int)} (h : WdAll H vs ws) (e : ExtN H H') : WdAll H' vs ws := ⟨h.1, fun i w hw => by
  obtain ⟨a, h1, h2⟩ := h.2 i w hw
  exact ⟨a, h1, e _ _ h2 fun ps z => by cases z⟩⟩
theorem pe_sortLam {T : List (Addr × Str)} {c P : Addr} {a : Str} {params : Arguments} {scope : Scope} {p0 p1 p2 p3 p4 p5 pos lpos kpos : Pos} {kk : Nat} {e : Expr} {te : TE} (hcalm : X.calm = true) (hgs : Gl X "sorted") (hms : X.mg "sorted" = none) (hvs : bootBuiltins "sorted" = some (.builtin "sorted")) (hml : X.mg "len" = none) (hr : Room 0 X.A)
    (TB : TabB X.base X.mg c P) (hcode : X.env.code = .ref c) (hm : (P, X.env.qual ++ "<lambda>") ∈ T) (hu : ∀ p ∈ T, p.1 = P → p.2 = X.env.qual ++ "<lambda>") (hdef : defaultsOf params X.env = ([], [])) (S : LamSc scope a) (hclo : cloFrom X.env.cells scope.names [] = [])
    (hbind : ∀ (pm ctv : Value) (c' t : Addr), bindArgs (PySem.W.kla_fn "<lambda>" (X.env.qual ++ "<lambda>") params (lamB a p1 p2 p3 p4 p5 kk) scope [] pm (.ref c') ctv) ⟨[.ref t], []⟩ = pure [(a, .ref t)]) (hda : (a == ("__debug__" : Str)) = false)
    (he : PE X e te)
    (hse : starEach [e] X.env = (false, eval e X.env) :: starEach [] X.env := by rfl)
    (he2 : backTo pos (starEach [e] X.env) = (false, eval e X.env) :: backTo pos (starEach [] X.env) := by rfl) (hpl : (backTo pos (starEach [e] X.env)).any (·.1) = false := by rfl)
    (hall : (backToKw pos (keywordEach [⟨some "key", .Lambda params (lamB a p1 p2 p3 p4 p5 kk) scope lpos, kpos⟩] X.env)).all (·.1.isSome) = true := by rfl) (hnone : (backToKw pos (keywordEach [⟨some "key", .Lambda params (lamB a p1 p2 p3 p4 p5 kk) scope lpos, kpos⟩] X.env)).any (·.1.isNone) = false := by rfl)
    (hks : (backToKw pos (keywordEach [⟨some "key", .Lambda params (lamB a p1 p2 p3 p4 p5 kk) scope lpos, kpos⟩] X.env)).filterMap (·.1) = [Str.ofString "key"] := by rfl) :
    PE X (.Call (.Name "sorted" p0) [e] [⟨some "key", .Lambda params (lamB a p1 p2 p3 p4 p5 kk) scope lpos, kpos⟩] pos) (tSortLam T X.K te) := by
  refine ⟨fun pins s σ H Q I h => ?_⟩
  refine wpAny_Call_Name_kw (ld_blt I hgs hms hvs ?_)
  have ha := (pa_cons he pa_nil hse).run pos pins s σ H (fun vs H1 => match vs with
    | [x] => rSortLam T X.K x H1 Q
    | _ => False) I h
  refine PyProof.Rows.callWith_kw (thn ha fun us s1 ⟨vs, H1, I1, r1, q1⟩ => ?_) he2 hpl hall hnone
  rw [hks]
  cases vs with
  | nil => exact False.elim q1
  | cons x vs =>
  cases vs with
  | cons _ _ => exact False.elim q1
  | nil =>
  obtain ⟨hT, l, xs, ws, rfl, hl, hx, hwl, hw, q⟩ := q1
  obtain ⟨u, rfl, ru⟩ := r1.one
  cases ru
  show wpAny _ _ (evalAll ((do let v ← eval (.Lambda params (lamB a p1 p2 p3 p4 p5 kk) scope lpos) X.env; standAt pos; pure v) :: (backToKw pos (keywordEach [] X.env)).map (·.2))) _ _ s1
  refine wpAny_evalAll_cons (wpAny_bind (lam_make2 I1 TB hcode hm hu hT hdef (fun y hy e2 => absurd e2 (S.cell y hy).2) fun f c' pm ctv H2 s2 I2 ext tabs hf hfn hfr hco => wpAny_bind (wpAny_standAt (wpAny_pure ?_))))
  refine wpAny_evalAll_nil ?_
  rw [hclo] at hf
  have hl2 := extN_seq ext hl
  have hx2 := hx.ext ext
  obtain ⟨its, rv, pl, hz⟩ := I2.list hl2
  have hcr := NdefX.codeO_at I2.hok hco
  obtain ⟨mb, hb1, hb2⟩ := I2.mod.blt
  have hsz : 1000 ≤ sizeLine := by decide
  refine PySem.W.sorted_key_data (R := RW H2 s2.heap) keyW pl.isList (rw_each I2 rv hx2) (alike_keys ws) (sortable_keys ws) (by omega) (fun w _ => ?_) (PyProof.Rows.ksk_s1 _ _) (fun x => PyProof.Rows.ksk_l1 _ _) (fun x => PyProof.Rows.ksk_t1 _ _) (b := false) (fun v w hvw hwm h tk hk => ?_) fun out c0 h' tk hk hfr0 hS hol hout => ?_
  · have := depth_key w
    have := hr.un
    omega
  · obtain ⟨t, its', rfl, g1, g2, g3⟩ := hvw
    have g4 := g2.length
    rw [List.length_map] at g4
    refine lam_turn (s := { s2 with heap := h, toks := tk }) (mg := X.mg) (mb := mb) hr.depth (hk _ _ hf) (let ⟨c, o, vs, t, e1, e2, e3⟩ := hcr; ⟨c, o, vs, t, e1, hk _ _ e2, e3⟩) (I2.nolimit.keeps hk) ((I2.mod.glob.keeps I2.bk).keeps hk) ((hb1.keeps I2.bk).keeps hk) hml ((hb2 _ (by decide)).trans PySem.boot_len) (g3.keeps hk)
      (by have := hw w hwm; rw [List.size_toArray]; omega) S (hbind pm ctv c' t) hda fun h3 tk3 T3 u3 k3 e3 => ⟨h3, tk3, rfl, k3, ?_⟩
    rw [List.size_toArray, ← g4] at e3
    obtain ⟨o4, e4, e5, n4, e6⟩ := g3
    exact .tuple e3 rfl rfl (.cons (as := []) (bs := []) (.int _ _) (.cons (as := []) (bs := []) (.tuple (k3 _ _ (hk _ _ e4)) e5 e6 (reads_ints g2)) .nil))
  · obtain ⟨ys, k1, k2, k3⟩ := each_rw hout
    have hlen : ys.length ≤ sizeLine := by
      rw [k3, List.length_mergeSort]
      omega
    have hfr1 : H2 (s2.heap.objs.size + 1) = none := I2.hok.fresh (Nat.le_succ _)
    have sm := same_upd (o := .lst ys) hfr1
    exact ⟨.ref (s2.heap.objs.size + 1), upd H2 (s2.heap.objs.size + 1) (.lst ys), I2.laid (t' := tk) hk (Nat.le_succ _) ⟨hlen, out, c0, k1, hS⟩, rfl, q _ _ ys (ext.trans sm.ext) (tabs.ext sm) upd_same (k2.same sm)⟩
end
end L2

set_option Elab.async false
set_option linter.all false
set_option maxRecDepth 100000
set_option maxHeartbeats 8000000
namespace L2
open PySem PySem.Spec PyProof.Rows
open LamX (ExtN Tabs TabB TabS lam_make2 CodeO)
/-! ## a def whose code object is told -/
structure DfC (K : PySem.W.Frag) (mg : Str → Option Value) (x : Str) (st : Stmt) (ps : List Str) (c : Addr) : Prop where
  ex : ∃ (f : Addr) (oc : Value) (od : Option Addr) (osl : Array (Option Value)) (kV doc pm : Value) (an : Option Addr) (ct : Value), K.lookup f = some ⟨oc, od, .func (PySem.W.fnOf x x (defArgs st) (defBody st) (defScope st) .none kV doc pm an (.ref c) ct), osl⟩ ∧ PySem.W.codeIn K (.ref c) x = true ∧
    PySem.W.keepIn K (.ref f) = true ∧ mg x = some (.ref f) ∧ Binds K (PySem.W.fnOf x x (defArgs st) (defBody st) (defScope st) .none kV doc pm an (.ref c) ct) ps []
theorem DfC.ok {P : Program} {w : World} {K : PySem.W.Frag} {mg : Str → Option Value} {base : Heap} {x : Str} {st : Stmt} {N ps : List Str} {k : Nat} {sp : Sp} {c : Addr} (D : DfC K mg x st ps c) (S : FnScope N ps (defScope st)) (len : ∀ vs H Q E, sp vs H Q E → vs.length = ps.length)
    (hbody : ∀ (f : Addr) (A : Around) (outer : List Env) (s : Shared) (H : Hp) (vs : List V) (Q : VK) (E : XK), Room k (A.deeper (envOfC x (defScope st) s.heap.objs.size f (.ref c))) → sp vs H Q E →
      ∃ t, PSs (cxOf CX0 P w K mg base N x (defScope st) f (.ref c) A outer s H E).nox (defBody st) t ∧ t { nx := fun _ H' => Q .non H', rt := Q } (start N vs) H) : Ok' P w K mg base x ps (k + 1) sp := by
  obtain ⟨f, oc, od, osl, kV, doc, pm, an, ct, lk, hcd, kp, hm, b⟩ := D.ex
  refine ⟨f, _, fn_of lk hcd S len fun A outer s H vs Q E hr hsp => ?_, hm, kp, b⟩
  obtain ⟨t, h, q⟩ := hbody f A outer s H vs Q E hr hsp
  exact ⟨t, h.nox, q⟩
def qLam : Str := (("lyndon_words" : Str) ++ ".<locals>.") ++ "<lambda>"
abbrev TL (P : Addr) : List (Addr × Str) := [(P, qLam)]
section
variable {P : Program} {w : World} {K : PySem.W.Frag} {mg : Str → Option Value} {base : Heap}
def spLynT (T : List (Addr × Str)) (K : PySem.W.Frag) : Sp := fun vs H Q _ => ∃ wide n : Nat, vs = [.int (wide : Int), .int (n : Int)] ∧ (wide = 2 ∨ wide = 3) ∧ 1 ≤ n ∧ n ≤ 4 ∧ Tabs T H ∧
  ∀ H' l xs, ExtN H H' → Tabs T H' → H' l = some (.lst xs) → WdAll H' xs (Lk.lynd wide n) → Q (.ref l) H'
abbrev sLyn : Stmt := topS 23
abbrev nLyn : List Str := ["many", "power", "found", "word"]
theorem scLyn : FnScope nLyn ["many", "power"] (defScope sLyn) := ⟨rfl, rfl, rfl, by decide +kernel, rfl, by decide +kernel, by decide +kernel⟩
theorem ok_lyn {c Pt : Addr} (D : DfC K mg "lyndon_words" sLyn ["many", "power"] c) (T : Tx K mg) (TB : TabB base mg c Pt) (GN : Ok' P w K mg base "next_lyndon" ["word", "many", "power"] 1 (spNext K)) : Ok' P w K mg base "lyndon_words" ["many", "power"] 2 (spLynT (TL Pt) K) := by
  refine D.ok scLyn (fun vs H Q E h => ?_) (fun f A outer s H vs Q E hr h => ?_)
  · obtain ⟨wide, n, rfl, _⟩ := h; rfl
  · obtain ⟨wide, n, rfl, hw, h1, h4, hT, q⟩ := h
    refine ⟨_, pss_cons (ps_par (i := 2) (j := 3) (by rfl) scLyn.nd rfl rfl (by decide) rfl rfl (pa_cons (pe_lst pa_nil) (pa_cons (pe_tup (pa_cons pe_int pa_nil)) pa_nil)) (by rfl))
      (pss_cons (ps_while PassesOwn.never (pt_cmp (pc_notN (pv 3)) rfl) (pss_cons (ps_expr (pe_bm PySem.F.plainAttrs_list PySem.F.slot_list_append PySem.F.type_list_append mt_append (pv 2) (pa_cons (pv 3) pa_nil)))
        (pss_one (ps_set (i := 3) scLyn.nd rfl (.inl rfl) (pe_cf GN hr (pa_cons (pv 3) (pa_cons (pv 0) (pa_cons (pv 1) pa_nil))))))))
      (pss_one (ps_ret (pe_sortLam (T := TL Pt) (c := c) (P := Pt) (a := "own") rfl (by rfl) T.sorted (by decide +kernel) T.len (hr.mono (by decide)) TB rfl (List.mem_singleton.mpr rfl) (fun p hp _ => by rw [List.mem_singleton.mp hp]; rfl) (by rfl) ⟨rfl, rfl, rfl, by decide +kernel, by rfl, by rfl⟩ (by rfl) (fun _ _ _ _ => by rfl) (by decide) (pv 2))))), ?_⟩
    refine ⟨Nat.zero_le _, fun F hF => ⟨by decide, fun t0 ht0 => ⟨_, _, rfl, ?_⟩⟩⟩
    have s1 := same_upd (o := .lst []) hF
    have s2 := same_upd (o := .tup [.int 0]) ht0
    have hlen := chain_len hw h1 h4
    refine while_by (fun σ H' => ∃ i xs v, σ = [some (.int (wide : Int)), some (.int (n : Int)), some (.ref F), some v] ∧ H' F = some (.lst xs) ∧ Same H H' ∧ i ≤ (chain wide n).length ∧ WdAll H' xs ((chain wide n).take i) ∧
        ((∃ wd a, (chain wide n)[i]? = some wd ∧ v = .ref a ∧ H' a = some (.tup (wd.map V.int))) ∨ ((chain wide n)[i]? = none ∧ v = .non)))
      (fun σ H' => 41 - (match H' F with | some (.lst xs) => xs.length | _ => 0)) ⟨0, [], .ref t0, rfl, s2 _ _ upd_same, s1.trans s2, Nat.zero_le _, .nil, .inl ⟨[0], t0, chain_zero, rfl, upd_same⟩⟩ ?_ ?_
    · rintro σ H2 ⟨i, xs, v, rfl, k1, k2, k3, k4, k5⟩
      rcases k5 with ⟨wd, a, e1, rfl, ha⟩ | ⟨e1, rfl⟩
      · refine ⟨_, rfl, _, rfl, ifT rfl ?_⟩
        obtain ⟨g1, g2, g3⟩ := chain_step hw h1 h4 e1
        have hi := (List.getElem?_eq_some_iff.mp e1).1
        have hxl : xs.length = i := by rw [k4.1, List.length_take]; omega
        have tk : Tk K H2 (upd H2 F (.lst (xs ++ [.ref a]))) := tk_updL k1
        have hF0 : H F = none := hF
        refine ⟨_, rfl, .inl ⟨rfl, _, SqL.of k1⟩, _, rfl, F, xs, .ref a, rfl, rfl, k1, small1000 (by omega), ?_⟩
        have d1 : WdAll (upd H2 F (.lst (xs ++ [.ref a]))) (xs ++ [.ref a]) ((chain wide n).take (i + 1)) := by
          rw [List.take_add_one, e1, Option.toList_some]
          exact (k4.append (.one ha)).put k1
        have sF : Same H (upd H2 F (.lst (xs ++ [.ref a]))) := k2.put hF0
        refine ⟨_, rfl, _, rfl, _, rfl, a, wd, wide, n, rfl, tk _ _ (SqT.of ha), g2, g3, h4, fun e H3 s3 => ?_, fun u e H3 p s3 hp => ?_⟩
        · refine ⟨⟨i + 1, _, .non, rfl, s3 _ _ upd_same, sF.trans s3, hi, d1.same s3, .inr ⟨by rw [← g1, e], rfl⟩⟩, ?_⟩
          rw [s3 _ _ upd_same, k1]
          simp
          omega
        · refine ⟨⟨i + 1, _, .ref p, rfl, s3 _ _ upd_same, sF.trans s3, hi, d1.same s3, .inl ⟨u, p, by rw [← g1, e], rfl, hp⟩⟩, ?_⟩
          rw [s3 _ _ upd_same, k1]
          simp
          omega
      · refine ⟨_, rfl, _, rfl, ifF rfl ?_⟩
        have hi : (chain wide n).length = i := by have := List.getElem?_eq_none_iff.mp e1; omega
        rw [← hi, List.take_length] at k4
        refine ⟨_, rfl, hT.ext k2, F, xs, chain wide n, rfl, SqL.of k1, k4, by omega, fun u hu => ?_, fun H3 p ys x3 t3 hp hys => ?_⟩
        · obtain ⟨j, hj⟩ := List.mem_iff_getElem?.mp hu
          have := (chain_step hw h1 h4 hj).2.2
          omega
        · rw [chain_sorted hw h1 h4] at hys
          exact q _ _ _ (k2.ext.trans x3) t3 hp hys
    · rintro σ H' R R' hR ⟨v, e, c, e2, h⟩
      exact ⟨v, e, c, e2, hR _ _ h⟩
end
end L2

set_option Elab.async false
set_option linter.all false
set_option maxRecDepth 100000
set_option maxHeartbeats 8000000
namespace L2
open PySem PySem.Spec PyProof.Rows
open LamX (ExtN Tabs TabB TabS lam_make2 CodeO)
open Lk (Six Bd SixR Wt Below)
/-- what a def hands back that makes a lambda -/
def RetT (T : List (Addr × Str)) (K : PySem.W.Frag) (H : Hp) (Q : VK) (d : PyData) : Prop := ∀ H' v, ExtN H H' → Tabs T H' → Dp K H' v d → Q v H'
theorem Dp.ext {K : PySem.W.Frag} {H H' : Hp} {v : V} {d : PyData} (h : Dp K H v d) (hd : NoL d) (e : ExtN H H') : Dp K H' v d := h.tk hd (extN_tk e)
theorem Same.thenX {H H1 H2 : Hp} (a : Same H H1) (b : ExtN H1 H2) : ExtN H H2 := a.ext.trans b
theorem WdAll.dpAll {K : PySem.W.Frag} {H : Hp} : ∀ {xs : List V} {ws : List (List Int)}, WdAll H xs ws → DpAll K H xs (ws.map dW)
  | [], [], _ => .nil
  | [], w :: ws, h => absurd h.1 (by simp)
  | x :: xs, [], h => absurd h.1 (by simp)
  | x :: xs, w :: ws, h => by
    obtain ⟨a, xs', e, h1, h2⟩ := h.uncons
    cases e
    exact .cons (Dp.mkW (SqT.of h1)) (WdAll.dpAll h2)
section
variable {P : Program} {w : World} {K : PySem.W.Frag} {mg : Str → Option Value} {base : Heap}
def spMarksT (T : List (Addr × Str)) (K : PySem.W.Frag) : Sp := fun vs H Q _ => ∃ v r, ∃ wide n : Nat, vs = [v, .int (wide : Int), .int (n : Int)] ∧ Dp K H v (dR r) ∧ (wide = 2 ∨ wide = 3) ∧ 1 ≤ n ∧ n ≤ 4 ∧ SixR r ∧ r.length ≤ 20 ∧ Tabs T H ∧ RetT T K H Q (dFs ((Lk.lynd wide n).map (Lk.worth r)))
theorem ok_marksT {TT : List (Addr × Str)} (D : Df K mg "marks_of" sMarks ["row", "many", "power"]) (T : Tx K mg) (GL : Ok' P w K mg base "lyndon_words" ["many", "power"] 5 (spLynT TT K)) (GW : Ok' P w K mg base "word_worth" ["row", "word"] 5 (spWorth K)) :
    Ok' P w K mg base "marks_of" ["row", "many", "power"] 6 (spMarksT TT K) := by
  refine D.ok scMarks (fun vs H Q E h => ?_) (fun f cdv A outer s H vs Q E hr h => ?_)
  · obtain ⟨v, r, wide, n, rfl, _⟩ := h; rfl
  · obtain ⟨v, r, wide, n, rfl, hv, hw, h1, h4, h6, hl, hT, q⟩ := h
    refine ⟨_, pss_one (ps_ret (pe_callTy call_tuple_of (by rfl) T.tuple (by decide +kernel) (pa_cons (pe_lc (own := [("word", 3)]) (g := gName 3) (tt := tYes) rfl scMarks.nd (pi_list (pe_cf GL hr (pa_cons (pv 1) (pa_cons (pv 2) pa_nil)))) (blkOk_by (N := ["row", "many", "power", "word"]) (sc := defScope sMarks) (by decide +kernel))
        (fun _ _ _ _ _ => pg_name (i := 3) scMarks.nd rfl (Or.inl rfl)) (fun _ _ _ _ _ => pts_nil) (fun _ _ _ _ _ => pe_cf GW hr (pa_cons (pv 0) (pa_cons (pv 3) pa_nil)))) pa_nil))), ?_⟩
    refine ⟨_, rfl, _, rfl, wide, n, rfl, hw, h1, h4, hT, fun H1 l xs s1 hT1 hl1 hxw => ?_⟩
    have hx := hxw.dpAll (K := K)
    have hv1 := hv.ext (nol_R r) s1
    refine ⟨l, rfl, ⟨_, SqL.of hl1⟩, fun D hD => ?_⟩
    obtain ⟨hL1, hL2⟩ := lynd_ok hw h1 h4
    have hlen : xs.length = (Lk.lynd wide n).length := by rw [hx.length, List.length_map]
    refine lc_map (K := K) (walk_list (K := K) (a := l) (xs := xs)) (((Lk.lynd wide n).map (Lk.worth r)).map dF) (by rw [List.length_map, List.length_map]; exact hlen.symm) (by rw [hlen]; exact hL1) (nol_Fs _) hD (fun H' s' => SqL.of (s' _ _ hl1)) yat_same ?_ gName_mono ?_
    · rintro i x H2 H3 d R ed s2 ⟨rfl, hx2⟩ hR
      obtain ⟨d', e1, e2⟩ := hx.at hx2
      rw [List.getElem?_map] at e1
      rw [List.getElem?_map, List.getElem?_map] at ed
      cases hi : (Lk.lynd wide n)[i]? with
      | none => rw [hi] at e1; cases e1
      | some wd =>
        rw [hi] at e1 ed
        cases e1; cases ed
        exact ⟨rfl, v, rfl, x, rfl, v, x, r, wd, rfl, hv1.same s2, e2.same s2, hL2 wd (List.mem_of_getElem? hi), h6, hl, hR⟩
    · intro H2 ys s2 h1 h2
      refine ⟨D, ys, rfl, .inl ⟨SqL.of h1, fun l hl => ?_⟩⟩
      have s3 := s2.new (o := .tup ys) hl
      exact q _ _ (s1.trans s3.ext) (hT1.ext s3) (.tup (SqT.of upd_same) (h2.same (same_upd hl)))
end
end L2

set_option Elab.async false
set_option linter.all false
set_option maxRecDepth 100000
set_option maxHeartbeats 8000000
namespace L2
open PySem PySem.Spec PyProof.Rows
open LamX (ExtN Tabs TabB TabS lam_make2 CodeO)
/-! ## alike in all -/
inductive Dz : Nat → PyData → Prop where
  | int (n : Nat) (i : Int) : Dz n (.int i)
  | bool (n : Nat) (b : Bool) : Dz n (.bool b)
  | tup (n : Nat) (ds : List PyData) : ds.length ≤ 1000 → (∀ d ∈ ds, Dz n d) → Dz (n + 1) (.tuple ds)
  | lst (n : Nat) (ds : List PyData) : ds.length ≤ 1000 → (∀ d ∈ ds, Dz n d) → Dz (n + 1) (.list ds)
section
variable {P : Program} {w : World} {K : PySem.W.Frag} {mg : Str → Option Value} {base : Heap}
def spAlike (K : PySem.W.Frag) (n : Nat) : Sp := fun vs H Q _ => ∃ u v d, vs = [u, v] ∧ Dp K H u d ∧ Dp K H v d ∧ Dz n d ∧ ∀ H', Same H H' → Q (.bl true) H'
abbrev sAlike : Stmt := topS 35
abbrev nAlike : List Str := ["_law_near_here", "_law_due", "_law_far", "_law_own"]
theorem scAlike : FnScope nAlike ["_law_near_here", "_law_due"] (defScope sAlike) := ⟨rfl, rfl, rfl, by decide +kernel, rfl, by decide +kernel, by decide +kernel⟩
theorem isi_LT {t : String} {b : Bool} (h1 : kitB t "list" = some (t == "list")) (h2 : kitB t "tuple" = some (t == "tuple")) (e : b = ((t == "list") || (t == "tuple"))) : PySem.W.kitAny K (.type t) [.type "list", .type "tuple"] = some b := by
  subst e
  refine kitAny_cons (kit_ty h1) (fun e => ?_) (fun e => by rw [e]; rfl)
  refine kitAny_cons (kit_ty h2) (fun e2 => by rw [e, e2]; exact kitAny_nil) (fun e2 => by rw [e2, Bool.or_true])
theorem isi_BS {t : String} {b : Bool} (h1 : kitB t "bool" = some (t == "bool")) (h2 : kitB t "str" = some (t == "str")) (e : b = ((t == "bool") || (t == "str"))) : PySem.W.kitAny K (.type t) [.type "bool", .type "str"] = some b := by
  subst e
  refine kitAny_cons (kit_ty h1) (fun e => ?_) (fun e => by rw [e]; rfl)
  refine kitAny_cons (kit_ty h2) (fun e2 => by rw [e, e2]; exact kitAny_nil) (fun e2 => by rw [e2, Bool.or_true])

theorem walk_zipT {a b : Addr} {xs ys : List V} {n : Nat} (hn : n = min xs.length ys.length) : Walk (RZ.ItzT K a b) n (fun H => SqT K H a xs ∧ SqT K H b ys) (YPair (fun i => xs[i]?) (fun i => ys[i]?)) := by
  subst hn
  refine ⟨fun i _ hi q => ?_, fun _ q => ⟨xs, ys, q.1, q.2, by omega⟩, fun i H v H' _ q y => ?_⟩
  · have g1 : i < xs.length := by omega
    have g2 : i < ys.length := by omega
    exact ⟨xs, ys, xs[i], ys[i], q.1, q.2, by simp [g1], by simp [g2]⟩
  · obtain ⟨T, x, z, g1, g2, g3, g4, g5⟩ := y
    exact ⟨T, x, z, g1, g2, g3, g4 xs q.1, g5 ys q.2⟩
theorem alike_lc {J : It} {G : Hp → Prop} {n : Nat} {xs ys : List V} {ds : List PyData} {H1 : Hp} {u v : V} {D : Addr} {Qd : Hp → Prop} (wk : Walk J ds.length G (YPair (fun i => xs[i]?) (fun i => ys[i]?))) (hG : ∀ H', Same H1 H' → G H') (hx : DpAll K H1 xs ds) (hy : DpAll K H1 ys ds)
    (hz : ds.length ≤ 1000) (hds : ∀ d ∈ ds, Dz n d) (hD : H1 D = none) (hd : ∀ H', Same H1 H' → H' D = some (.lst ((List.replicate ds.length true).map V.bl)) → Qd H') :
    ∃ W : Nat → Nat → Hp → Prop, (∃ m, W 0 m (upd H1 D (.lst []))) ∧ ∀ i m H, W i m H →
      (J.stop i H ∧ Qd H) ∨ (J.go i H ∧ ∃ Nx : Hp → Prop, (∀ H', Nx H' → ∃ m', m' < m ∧ W (i + 1) m' H') ∧ ∀ x H', J.yld i H x H' → gTup K 2 (gCons (gName 2) (gCons (gName 3) gNil)) x (wipe [some u, some v, none, none] [2, 3]) H' fun σ2 H2 => wipe σ2 [2, 3] = wipe [some u, some v, none, none] [2, 3] ∧ tYes σ2 H2 fun b H3 =>
        if b = true then tCall (spAlike K n) [] E0 (tCons (tVar 2) (tCons (tVar 3) tNil)) σ2 H3 fun y H4 => ∃ acc, H4 D = some (.lst acc) ∧ acc.length < sizeLine ∧ Nx (upd H4 D (.lst (acc ++ [y]))) else Nx H3) := by
  refine lc_it wk (fun i H' => H' D = some (.lst ((List.replicate i true).map V.bl)) ∧ Same H1 H' ∧ i ≤ ds.length) ⟨upd_same, same_upd hD, Nat.zero_le _⟩ (fun _ _ _ hp => hG _ hp.2.1) ?_ ?_
  · rintro i x H2 H3 hi ⟨k1, k2, k3⟩ ⟨t, x1, y1, rfl, gt, rfl, ex, ey⟩
    have t0 := same_upd (o := .tup [x1, y1]) gt
    obtain ⟨d, e1, e2⟩ := hx.at ex
    obtain ⟨d', e3, e4⟩ := hy.at ey
    rw [e1] at e3
    cases e3
    refine ⟨t, _, rfl, SqT.of upd_same, rfl, _, _, rfl, _, _, rfl, rfl, rfl, ?_⟩
    refine ⟨_, rfl, _, rfl, x1, y1, d, rfl, e2.same (k2.trans t0), e4.same (k2.trans t0), hds d (List.mem_of_getElem? e1), fun H4 s4 => ?_⟩
    refine ⟨_, s4 _ _ (t0 _ _ k1), small1000 (by rw [List.length_map, List.length_replicate]; omega), ?_, ((k2.trans t0).trans s4).put hD, hi⟩
    rw [upd_same, List.replicate_succ', List.map_append]
    rfl
  · rintro H2 ⟨k1, k2, k3⟩
    exact hd H2 k2 k1
theorem all_rep (n : Nat) : (List.replicate n true).all id = true := by
  rw [List.all_eq_true]
  intro b hb
  rw [List.eq_of_mem_replicate hb]
  rfl
theorem ok_alike (D : Df K mg "_law_same" sAlike ["_law_near_here", "_law_due"]) (T : Tx K mg) : ∀ n : Nat, Ok' P w K mg base "_law_same" ["_law_near_here", "_law_due"] (n + 1) (spAlike K n) := by
  have two : 2 ≤ sizeLine := by decide
  intro n
  induction n with
  | zero =>
    refine D.ok scAlike (fun vs H Q E h => ?_) (fun f cdv A outer s H vs Q E hr h => ?_)
    · obtain ⟨u, v, d, rfl, _⟩ := h; rfl
    · obtain ⟨u, v, d, rfl, hu, hv, hn, q⟩ := h
      refine ⟨_, pss_cons (ps_if (pt_val (pe_callB call_isiT (by rfl) T.isinstance (by decide +kernel) (pa_cons (pv 1) (pa_cons (pe_tup (pa_cons (pe_bltn (v := .ty "list") (by rfl) T.list (by decide +kernel) rfl) (pa_cons (pe_bltn (v := .ty "tuple") (by rfl) T.tuple (by decide +kernel) rfl) pa_nil))) pa_nil))))
          pss_never pss_nil)
        (pss_cons (ps_if (PW.pt (pw_or (pt_cmp (pc_isN (pv 1)) rfl) (pw_or1 (pt_val (pe_callB call_isiT (by rfl) T.isinstance (by decide +kernel) (pa_cons (pv 1) (pa_cons (pe_tup (pa_cons (pe_bltn (v := .ty "bool") (by rfl) T.bool (by decide +kernel) rfl) (pa_cons (pe_bltn (v := .ty "str") (by rfl) T.str (by decide +kernel) rfl) pa_nil))) pa_nil)))))))
          (pss_cons (ps_if (pt_not (pt_cmpR op_eq (pv 0) (pv 1) (nomark _))) (pss_one (ps_ret pe_bl)) pss_nil)
          (pss_cons (ps_if (pt_not (pt_cmpR op_eq (pe_callB call_isi (by rfl) T.isinstance (by decide +kernel) (pa_cons (pv 0) (pa_cons (pe_bltn (v := .ty "bool") (by rfl) T.bool (by decide +kernel) rfl) pa_nil))) (pe_callB call_isi (by rfl) T.isinstance (by decide +kernel) (pa_cons (pv 1) (pa_cons (pe_bltn (v := .ty "bool") (by rfl) T.bool (by decide +kernel) rfl) pa_nil))) (nomark _))) (pss_one (ps_ret pe_bl)) pss_nil)
          (pss_one (ps_ret (pe_cmpR op_eq (pe_cmp (pc_isN (pv 0)) rfl) (pe_cmp (pc_isN (pv 1)) rfl) (nomark _)))))) pss_nil)
        (pss_one (ps_ret (pe_and (pe_callB call_isi (by rfl) T.isinstance (by decide +kernel) (pa_cons (pv 0) (pa_cons (pe_bltn (v := .ty "int") (by rfl) T.int (by decide +kernel) rfl) pa_nil))) (pe_and (pe_not (pe_callB call_isi (by rfl) T.isinstance (by decide +kernel) (pa_cons (pv 0) (pa_cons (pe_bltn (v := .ty "bool") (by rfl) T.bool (by decide +kernel) rfl) pa_nil)))) (pe_one (pe_cmpR op_eq (pv 0) (pv 1) (nomark _)))))))), ?_⟩
      refine ⟨_, rfl, two, fun p hp => ?_⟩
      have s1 := same_upd (o := .tup [.ty "list", .ty "tuple"]) hp
      cases hn with
      | int _ i =>
        cases hu; cases hv
        refine ⟨.int i, p, [.ty "list", .ty "tuple"], .type "int", [.type "list", .type "tuple"], false, rfl, upd_same, .cons (.ty _) (.cons (.ty _) .nil), .base (.int i), isi_LT_int, ?_⟩
        refine ⟨false, rfl, iteF ?_⟩
        refine ⟨_, rfl, _, rfl, iteF ?_⟩
        refine ⟨_, rfl, two, fun p2 hp2 => ?_⟩
        have s2 := same_upd (o := .tup [.ty "bool", .ty "str"]) hp2
        refine ⟨.int i, p2, [.ty "bool", .ty "str"], .type "int", [.type "bool", .type "str"], false, rfl, upd_same, .cons (.ty _) (.cons (.ty _) .nil), .base (.int i), isi_BS (by decide +kernel) (by decide +kernel) (by decide +kernel), ?_⟩
        refine ⟨false, rfl, iteF ?_⟩
        refine ⟨_, rfl, .int i, .ty "int", .type "int", .type "int", true, rfl, .ty _, .base (.int i), kit_ty (by decide +kernel), true, rfl, iteT ?_⟩
        refine ⟨_, rfl, .int i, .ty "bool", .type "int", .type "bool", false, rfl, .ty _, .base (.int i), kit_ty (by decide +kernel), false, rfl, true, rfl, iteT ?_⟩
        refine ⟨_, rfl, _, rfl, rfl, ?_⟩
        rw [dVeq rfl]
        exact q _ (s1.trans s2)
      | bool _ b =>
        cases hu; cases hv
        refine ⟨.bl b, p, [.ty "list", .ty "tuple"], .type "bool", [.type "list", .type "tuple"], false, rfl, upd_same, .cons (.ty _) (.cons (.ty _) .nil), .base (.bl b), isi_LT (by decide +kernel) (by decide +kernel) (by decide +kernel), ?_⟩
        refine ⟨false, rfl, iteF ?_⟩
        refine ⟨_, rfl, _, rfl, iteF ?_⟩
        refine ⟨_, rfl, two, fun p2 hp2 => ?_⟩
        have s2 := same_upd (o := .tup [.ty "bool", .ty "str"]) hp2
        refine ⟨.bl b, p2, [.ty "bool", .ty "str"], .type "bool", [.type "bool", .type "str"], true, rfl, upd_same, .cons (.ty _) (.cons (.ty _) .nil), .base (.bl b), isi_BS (by decide +kernel) (by decide +kernel) (by decide +kernel), ?_⟩
        refine ⟨true, rfl, iteT ?_⟩
        refine ⟨_, rfl, _, rfl, rfl, _, rfl, ifF (by simp) ?_⟩
        refine ⟨_, rfl, .bl b, .ty "bool", .type "bool", .type "bool", true, rfl, .ty _, .base (.bl b), kit_ty (by decide +kernel), _, rfl, .bl b, .ty "bool", .type "bool", .type "bool", true, rfl, .ty _, .base (.bl b), kit_ty (by decide +kernel), rfl, _, rfl, ifF (by simp) ?_⟩
        refine ⟨_, rfl, _, rfl, rfl, ?_⟩
        have e : decide (V.bl (decide (V.bl b = V.non)) = V.bl (decide (V.bl b = V.non))) = true := decide_eq_true rfl
        rw [e]
        exact q _ (s1.trans s2)
  | succ n ih =>
    refine D.ok scAlike (fun vs H Q E h => ?_) (fun f cdv A outer s H vs Q E hr h => ?_)
    · obtain ⟨u, v, d, rfl, _⟩ := h; rfl
    · obtain ⟨u, v, d, rfl, hu, hv, hn, q⟩ := h
      refine ⟨_, pss_cons (ps_if (pt_val (pe_callB call_isiT (by rfl) T.isinstance (by decide +kernel) (pa_cons (pv 1) (pa_cons (pe_tup (pa_cons (pe_bltn (v := .ty "list") (by rfl) T.list (by decide +kernel) rfl) (pa_cons (pe_bltn (v := .ty "tuple") (by rfl) T.tuple (by decide +kernel) rfl) pa_nil))) pa_nil))))
          (pss_cons (ps_if (pt_cmpR op_ne (pe_callB call_isi (by rfl) T.isinstance (by decide +kernel) (pa_cons (pv 0) (pa_cons (pe_bltn (v := .ty "list") (by rfl) T.list (by decide +kernel) rfl) pa_nil))) (pe_callB call_isi (by rfl) T.isinstance (by decide +kernel) (pa_cons (pv 1) (pa_cons (pe_bltn (v := .ty "list") (by rfl) T.list (by decide +kernel) rfl) pa_nil))) (nomark _)) (pss_one (ps_ret pe_bl)) pss_nil)
          (pss_cons (ps_if (pt_cmpR op_ne (pe_callB call_isi (by rfl) T.isinstance (by decide +kernel) (pa_cons (pv 0) (pa_cons (pe_bltn (v := .ty "tuple") (by rfl) T.tuple (by decide +kernel) rfl) pa_nil))) (pe_callB call_isi (by rfl) T.isinstance (by decide +kernel) (pa_cons (pv 1) (pa_cons (pe_bltn (v := .ty "tuple") (by rfl) T.tuple (by decide +kernel) rfl) pa_nil))) (nomark _)) (pss_one (ps_ret pe_bl)) pss_nil)
          (pss_cons (ps_if (pt_not (pt_cmpR op_eq (pe_callB call_len_seq (by rfl) T.len PySem.boot_len (pa_cons (pv 0) pa_nil)) (pe_callB call_len_seq (by rfl) T.len PySem.boot_len (pa_cons (pv 1) pa_nil)) (nomark _))) (pss_one (ps_ret pe_bl)) pss_nil)
          (pss_one (ps_ret (pe_callB (cr_all rfl) (by rfl) T.all (by decide +kernel) (pa_cons (pe_lc (own := [("_law_far", 2), ("_law_own", 3)]) (g := gTup K 2 (gCons (gName 2) (gCons (gName 3) gNil))) (tt := tYes) rfl scAlike.nd (RZ.pi_zipA (by rfl) T.zip (pa_cons (pv 0) (pa_cons (pv 1) pa_nil)))
            (blkOk_by (N := nAlike) (sc := defScope sAlike) (by decide +kernel)) (fun _ _ _ _ _ => pg_tup rfl (pgs_cons (pg_name (i := 2) scAlike.nd rfl (Or.inl rfl)) (pgs_cons (pg_name (i := 3) scAlike.nd rfl (Or.inl rfl)) pgs_nil))) (fun _ _ _ _ _ => pts_nil)
            (fun _ _ _ _ _ => pe_cf ih hr (pa_cons (pv 2) (pa_cons (pv 3) pa_nil)))) pa_nil))))))) pss_nil)
        (pss_cons (ps_if (PW.pt (pw_or (pt_cmp (pc_isN (pv 1)) rfl) (pw_or1 (pt_val (pe_callB call_isiT (by rfl) T.isinstance (by decide +kernel) (pa_cons (pv 1) (pa_cons (pe_tup (pa_cons (pe_bltn (v := .ty "bool") (by rfl) T.bool (by decide +kernel) rfl) (pa_cons (pe_bltn (v := .ty "str") (by rfl) T.str (by decide +kernel) rfl) pa_nil))) pa_nil)))))))
          (pss_cons (ps_if (pt_not (pt_cmpR op_eq (pv 0) (pv 1) (nomark _))) (pss_one (ps_ret pe_bl)) pss_nil)
          (pss_cons (ps_if (pt_not (pt_cmpR op_eq (pe_callB call_isi (by rfl) T.isinstance (by decide +kernel) (pa_cons (pv 0) (pa_cons (pe_bltn (v := .ty "bool") (by rfl) T.bool (by decide +kernel) rfl) pa_nil))) (pe_callB call_isi (by rfl) T.isinstance (by decide +kernel) (pa_cons (pv 1) (pa_cons (pe_bltn (v := .ty "bool") (by rfl) T.bool (by decide +kernel) rfl) pa_nil))) (nomark _))) (pss_one (ps_ret pe_bl)) pss_nil)
          (pss_one (ps_ret (pe_cmpR op_eq (pe_cmp (pc_isN (pv 0)) rfl) (pe_cmp (pc_isN (pv 1)) rfl) (nomark _)))))) pss_nil)
        (pss_one (ps_ret (pe_and (pe_callB call_isi (by rfl) T.isinstance (by decide +kernel) (pa_cons (pv 0) (pa_cons (pe_bltn (v := .ty "int") (by rfl) T.int (by decide +kernel) rfl) pa_nil))) (pe_and (pe_not (pe_callB call_isi (by rfl) T.isinstance (by decide +kernel) (pa_cons (pv 0) (pa_cons (pe_bltn (v := .ty "bool") (by rfl) T.bool (by decide +kernel) rfl) pa_nil)))) (pe_one (pe_cmpR op_eq (pv 0) (pv 1) (nomark _)))))))), ?_⟩
      refine ⟨_, rfl, two, fun p hp => ?_⟩
      have s1 := same_upd (o := .tup [.ty "list", .ty "tuple"]) hp
      cases hn with
      | int _ i =>
        cases hu; cases hv
        refine ⟨.int i, p, [.ty "list", .ty "tuple"], .type "int", [.type "list", .type "tuple"], false, rfl, upd_same, .cons (.ty _) (.cons (.ty _) .nil), .base (.int i), isi_LT_int, ?_⟩
        refine ⟨false, rfl, iteF ?_⟩
        refine ⟨_, rfl, _, rfl, iteF ?_⟩
        refine ⟨_, rfl, two, fun p2 hp2 => ?_⟩
        have s2 := same_upd (o := .tup [.ty "bool", .ty "str"]) hp2
        refine ⟨.int i, p2, [.ty "bool", .ty "str"], .type "int", [.type "bool", .type "str"], false, rfl, upd_same, .cons (.ty _) (.cons (.ty _) .nil), .base (.int i), isi_BS (by decide +kernel) (by decide +kernel) (by decide +kernel), ?_⟩
        refine ⟨false, rfl, iteF ?_⟩
        refine ⟨_, rfl, .int i, .ty "int", .type "int", .type "int", true, rfl, .ty _, .base (.int i), kit_ty (by decide +kernel), true, rfl, iteT ?_⟩
        refine ⟨_, rfl, .int i, .ty "bool", .type "int", .type "bool", false, rfl, .ty _, .base (.int i), kit_ty (by decide +kernel), false, rfl, true, rfl, iteT ?_⟩
        refine ⟨_, rfl, _, rfl, rfl, ?_⟩
        rw [dVeq rfl]
        exact q _ (s1.trans s2)
      | bool _ b =>
        cases hu; cases hv
        refine ⟨.bl b, p, [.ty "list", .ty "tuple"], .type "bool", [.type "list", .type "tuple"], false, rfl, upd_same, .cons (.ty _) (.cons (.ty _) .nil), .base (.bl b), isi_LT (by decide +kernel) (by decide +kernel) (by decide +kernel), ?_⟩
        refine ⟨false, rfl, iteF ?_⟩
        refine ⟨_, rfl, _, rfl, iteF ?_⟩
        refine ⟨_, rfl, two, fun p2 hp2 => ?_⟩
        have s2 := same_upd (o := .tup [.ty "bool", .ty "str"]) hp2
        refine ⟨.bl b, p2, [.ty "bool", .ty "str"], .type "bool", [.type "bool", .type "str"], true, rfl, upd_same, .cons (.ty _) (.cons (.ty _) .nil), .base (.bl b), isi_BS (by decide +kernel) (by decide +kernel) (by decide +kernel), ?_⟩
        refine ⟨true, rfl, iteT ?_⟩
        refine ⟨_, rfl, _, rfl, rfl, _, rfl, ifF (by simp) ?_⟩
        refine ⟨_, rfl, .bl b, .ty "bool", .type "bool", .type "bool", true, rfl, .ty _, .base (.bl b), kit_ty (by decide +kernel), _, rfl, .bl b, .ty "bool", .type "bool", .type "bool", true, rfl, .ty _, .base (.bl b), kit_ty (by decide +kernel), rfl, _, rfl, ifF (by simp) ?_⟩
        refine ⟨_, rfl, _, rfl, rfl, ?_⟩
        have e : decide (V.bl (decide (V.bl b = V.non)) = V.bl (decide (V.bl b = V.non))) = true := decide_eq_true rfl
        rw [e]
        exact q _ (s1.trans s2)
      | tup _ ds hz hds =>
        obtain ⟨a, xs, rfl, hs, ha⟩ := Dp.tupI hu
        obtain ⟨b, ys, rfl, hs', hb⟩ := Dp.tupI hv
        have hs1 := Same.tk s1 _ _ hs
        have hs1' := Same.tk s1 _ _ hs'
        refine ⟨.ref b, p, [.ty "list", .ty "tuple"], .type "tuple", [.type "list", .type "tuple"], true, rfl, upd_same, .cons (.ty _) (.cons (.ty _) .nil), tyx_T hs1', isi_LT_tup, ?_⟩
        refine ⟨true, rfl, iteT ?_⟩
        refine ⟨_, rfl, .ref a, .ty "list", .type "tuple", .type "list", false, rfl, .ty _, tyx_T hs1, kit_ty (by decide +kernel), _, rfl, .ref b, .ty "list", .type "tuple", .type "list", false, rfl, .ty _, tyx_T hs1', kit_ty (by decide +kernel), rfl, _, rfl, ifF (by simp) ?_⟩
        refine ⟨_, rfl, .ref a, .ty "tuple", .type "tuple", .type "tuple", true, rfl, .ty _, tyx_T hs1, kit_ty (by decide +kernel), _, rfl, .ref b, .ty "tuple", .type "tuple", .type "tuple", true, rfl, .ty _, tyx_T hs1', kit_ty (by decide +kernel), rfl, _, rfl, ifF (by simp) ?_⟩
        refine ⟨_, rfl, a, xs, rfl, .inr hs1, _, rfl, b, ys, rfl, .inr hs1', rfl, _, rfl, ifF (by rw [ha.length, hb.length]; simp) ?_⟩
        refine ⟨_, rfl, _, rfl, a, b, xs, ys, rfl, .inr ⟨hs1, hs1', fun D hD => ?_⟩⟩
        refine alike_lc (walk_zipT (by rw [ha.length, hb.length]; simp)) (fun H' s' => ⟨Same.tk s' _ _ hs1, Same.tk s' _ _ hs1'⟩) (ha.same s1) (hb.same s1) hz hds hD fun H' s' hl => ?_
        refine ⟨D, _, rfl, SqL.of hl, ?_⟩
        rw [all_rep]
        exact q _ (s1.trans s')
      | lst _ ds hz hds =>
        cases hu with
        | @lst a xs _ hs ha =>
        cases hv with
        | @lst b ys _ hs' hb =>
        have hs1 := s1.seq hs
        have hs1' := s1.seq hs'
        refine ⟨.ref b, p, [.ty "list", .ty "tuple"], .type "list", [.type "list", .type "tuple"], true, rfl, upd_same, .cons (.ty _) (.cons (.ty _) .nil), tyx_L hs1', isi_LT (by decide +kernel) (by decide +kernel) (by decide +kernel), ?_⟩
        refine ⟨true, rfl, iteT ?_⟩
        refine ⟨_, rfl, .ref a, .ty "list", .type "list", .type "list", true, rfl, .ty _, tyx_L hs1, kit_ty (by decide +kernel), _, rfl, .ref b, .ty "list", .type "list", .type "list", true, rfl, .ty _, tyx_L hs1', kit_ty (by decide +kernel), rfl, _, rfl, ifF (by simp) ?_⟩
        refine ⟨_, rfl, .ref a, .ty "tuple", .type "list", .type "tuple", false, rfl, .ty _, tyx_L hs1, kit_ty (by decide +kernel), _, rfl, .ref b, .ty "tuple", .type "list", .type "tuple", false, rfl, .ty _, tyx_L hs1', kit_ty (by decide +kernel), rfl, _, rfl, ifF (by simp) ?_⟩
        refine ⟨_, rfl, a, xs, rfl, .inl hs1, _, rfl, b, ys, rfl, .inl hs1', rfl, _, rfl, ifF (by rw [ha.length, hb.length]; simp) ?_⟩
        refine ⟨_, rfl, _, rfl, a, b, xs, ys, rfl, .inl ⟨hs1, hs1', fun D hD => ?_⟩⟩
        refine alike_lc (walk_zip (by rw [ha.length, hb.length]; simp)) (fun H' s' => ⟨s'.seq hs1, s'.seq hs1'⟩) (ha.same s1) (hb.same s1) hz hds hD fun H' s' hl => ?_
        refine ⟨D, _, rfl, SqL.of hl, ?_⟩
        rw [all_rep]
        exact q _ (s1.trans s')
end
end L2

set_option Elab.async false
set_option linter.all false
set_option maxRecDepth 100000
set_option maxHeartbeats 8000000
namespace L2
open PySem PySem.Spec PyProof.Rows
open LamX (ExtN Tabs TabB TabS lam_make2 CodeO)
open Lk (Six SixR Wt Below)
/-! ## sizes by the weight -/
theorem two900 {n : Nat} (h : n ≤ 2 ^ 20) : n ≤ 2 ^ 900 := Nat.le_trans h (two_lt (by decide))
theorem wt_szF {r : Row} {n : Nat} (h : Wt r n) (hn : n ≤ 2 ^ 20) (hl : r.length ≤ 1000) : SzF r := by
  refine ⟨hl, fun a ha => six_sz (h.mem a ha) (two900 hn), fun i a ha => ?_⟩
  have h1 : Wt (pil r i) (0 + n) := Wt.fold (t := []) (n := 0) trivial (h.take i)
  rw [Nat.zero_add] at h1
  exact six_sz (h1.mem a ha) (two900 hn)
theorem wt_szG {r : Row} {n : Nat} (h : Wt r n) (hn : n ≤ 2 ^ 20) (hl : r.length ≤ 900) : SzG r := by
  refine ⟨wt_szF h hn (by omega), fun i => wt_szF ((h.nf.laps i).rot) hn ?_⟩
  have h1 := laps_le i (Lk.nf r)
  have h2 := nf_len r
  rw [List.length_append, List.length_tail, List.length_take]
  omega
theorem extN_put {H H7 Hc : Hp} {L : Addr} {o : HO} (e7 : ExtN H H7) (hL : H7 L = none) (ec : ExtN H Hc) : ExtN H (upd Hc L o) := fun b x hb hn => by
  rw [upd_ne (ne_of_none (e7 b x hb hn) hL)]
  exact ec b x hb hn
theorem tabs_put {T : List (Addr × Str)} {H : Hp} {L : Addr} {xs ys : List V} (h : Tabs T H) (hL : H L = some (.lst xs)) : Tabs T (upd H L (.lst ys)) := fun p hp => by
  obtain ⟨ps, h1, h2, h3⟩ := h p hp
  refine ⟨ps, by rw [upd_ne (ne_of h1 hL (by intro z; cases z))]; exact h1, h2, fun pos cv hcv => ?_⟩
  obtain ⟨c, e1, e2⟩ := h3 pos cv hcv
  exact ⟨c, e1, by rw [upd_ne (ne_of e2 hL (by unfold CodeO; intro z; cases z))]; exact e2⟩
/-! ## a dict of worths -/
def DictR (K : PySem.W.Frag) (H : Hp) (d : Addr) (ws : List (List Int)) (r : Row) : Prop := ∃ ys, H d = some (.dT (kvW ws ys)) ∧ ys.length = ws.length ∧ DpAll K H ys ((ws.map (Lk.worth r)).map dF)
theorem DictR.ext {K : PySem.W.Frag} {H H' : Hp} {d : Addr} {ws : List (List Int)} {r : Row} (h : DictR K H d ws r) (e : ExtN H H') : DictR K H' d ws r := by
  obtain ⟨ys, h1, h2, h3⟩ := h
  exact ⟨ys, e _ _ h1 (fun ps z => by cases z), h2, h3.tk (nol_Fs _) (extN_tk e)⟩
theorem DictR.put {K : PySem.W.Frag} {H : Hp} {d D : Addr} {xs zs : List V} {ws : List (List Int)} {r : Row} (h : DictR K H d ws r) (hD : H D = some (.lst xs)) : DictR K (upd H D (.lst zs)) d ws r := by
  obtain ⟨ys, h1, h2, h3⟩ := h
  exact ⟨ys, by rw [upd_ne (ne_of h1 hD (by intro z; cases z))]; exact h1, h2, h3.tk (nol_Fs _) (tk_updL hD)⟩
theorem DictR.get {K : PySem.W.Frag} {H : Hp} {d b : Addr} {ws : List (List Int)} {r : Row} {w : List Int} (h : DictR K H d ws r) (hn : ws.Nodup) (hb : H b = some (.tup (w.map V.int))) (hw : w ∈ ws) : ∃ v, DGet H d (.ref b) (some v) ∧ Dp K H v (dF (Lk.worth r w)) := by
  obtain ⟨ys, h1, h2, h3⟩ := h
  obtain ⟨i, hi⟩ := List.mem_iff_getElem?.mp hw
  obtain ⟨v, g1, g2⟩ := h3.get (i := i) (d := dF (Lk.worth r w)) (by rw [List.getElem?_map, List.getElem?_map, hi]; rfl)
  exact ⟨v, DGet.w h1 hb hn h2.symm hi g1, g2⟩
theorem call_dictK {X : Cx} {K : PySem.W.Frag} (hK : X.K = K) (hcalm : X.calm = true) (hu : X.A.units + 64 < cLine) : CallR X (.type "dict") (fun xs H Q => ∃ (a : Addr) (ts : List Tri), xs = [.ref a] ∧ SqL K H a (ts.map fun t => V.ref t.1) ∧ (∀ t ∈ ts, SqT K H t.1 [.ref t.2.2.1, t.2.2.2] ∧ H t.2.2.1 = some (.tup (t.2.1.map kV))) ∧ (ts.map fun t => t.2.1).Nodup ∧
    ∀ p, H p = none → Q (.ref p) (upd H p (.dT (ts.map fun t => (t.2.1, t.2.2.2))))) := hK ▸ call_dictT hcalm hu
theorem pe_listZipK {X : Cx} {K : PySem.W.Frag} (hK : X.K = K) {e e2 : Expr} {ta : TA} {p p2 pos pos2 : Pos} (hcalm : X.calm = true) (hgl : Gl X "list") (hml : X.mg "list" = none) (hvl : bootBuiltins "list" = some (.type "list")) (hg : Gl X "zip") (hm : X.mg "zip" = none) (ha : PA X [e, e2] ta)
    (hs : starEach [e, e2] X.env = (false, eval e X.env) :: starEach [e2] X.env := by rfl) (hpl : (backTo pos2 (starEach [e2] X.env)).any (·.1) = false := by rfl)
    (hs2 : starEach [.Call (.Name "zip" p2) [e, e2] [] pos2] X.env = (false, eval (.Call (.Name "zip" p2) [e, e2] [] pos2) X.env) :: starEach [] X.env := by rfl) :
    PE X (.Call (.Name "list" p) [.Call (.Name "zip" p2) [e, e2] [] pos2] [] pos) (tListZip K ta) := hK ▸ pe_listZip hcalm hgl hml hvl hg hm ha hs hpl hs2
theorem WdAll.sub {H : Hp} {xs : List V} {ws : List (List Int)} (h : WdAll H xs ws) (i n : Nat) : WdAll H ((xs.drop i).take n) ((ws.drop i).take n) := by
  refine ⟨by rw [List.length_take, List.length_take, List.length_drop, List.length_drop, h.1], fun j w hj => ?_⟩
  have hjn : j < n := by
    have := (List.getElem?_eq_some_iff.mp hj).1
    rw [List.length_take] at this
    omega
  rw [List.getElem?_take_of_lt hjn, List.getElem?_drop] at hj ⊢
  exact h.2 _ w hj
theorem pi_listK {X : Cx} {K : PySem.W.Frag} (hK : X.K = K) {tg l : Expr} {tl : TE} (hl : PE X l tl) : PI X tg l (iList K tl) := hK ▸ pi_list hl
theorem call_tupleK {X : Cx} {K : PySem.W.Frag} (hK : X.K = K) : CallR X (.type "tuple") (fun xs H Q => ∃ p ys, xs = [.ref p] ∧ ((SqL K H p ys ∧ ∀ l, H l = none → Q (.ref l) (upd H l (.tup ys))) ∨ (SqT K H p ys ∧ Q (.ref p) H))) := hK ▸ call_tuple_of
end L2

set_option Elab.async false
set_option linter.all false
set_option maxRecDepth 100000
set_option maxHeartbeats 16000000
namespace L2
open PySem PySem.Spec PyProof.Rows
open LamX (ExtN Tabs TabB TabS lam_make2 CodeO)
open Lk (Six SixR Wt Below)
section
variable {P : Program} {w : World} {K : PySem.W.Frag} {mg : Str → Option Value} {base : Heap}
def spHalf (TT : List (Addr × Str)) (K : PySem.W.Frag) : Sp := fun vs H Q _ => ∃ v u a b, ∃ wide : Nat, vs = [v, u, .int (wide : Int)] ∧ Dp K H v (dR a) ∧ Dp K H u (dR b) ∧ (wide = 2 ∨ wide = 3) ∧ Below wide a ∧ Below wide b ∧ SixR a ∧ SixR b ∧ a.length ≤ 20 ∧ b.length ≤ 20 ∧ Tabs TT H ∧ ∀ H', ExtN H H' → Tabs TT H' → Q (.bl true) H'
abbrev sHalf : Stmt := topS 47
abbrev nHalf : List Str := ["_law_flows_so", "_law_other_so", "_law_wide_so", "_law_ring_so", "_law_same_so", "_law_top_so", "_law_words_so", "_law_worths_so", "_law_told_so", "_law_heard_so", "_law_due", "_law_own", "_law_k"]
theorem scHalf : FnScope nHalf ["_law_flows_so", "_law_other_so", "_law_wide_so"] (defScope sHalf) := ⟨rfl, rfl, rfl, by decide +kernel, rfl, by decide +kernel, by decide +kernel⟩
/-- the scope of the first comprehension that a statement assigns -/
def lcScope : Expr → Option Scope
  | .ListComp _ _ sc _ => some sc
  | .BinOp a _ _ _ => match a with
    | .ListComp _ _ sc _ => some sc
    | _ => none
  | _ => none
def asgE : Stmt → Expr
  | .Assign _ e _ => e
  | _ => .Constant .none 0 ⟨0, 0, 0, 0⟩
def scDue : Scope := ((lcScope (asgE ((defBody sHalf).getD 8 (.Pass ⟨0, 0, 0, 0⟩)))).getD (defScope sHalf))
theorem nol_dFs (l : List Rat) : NoL (dFs l) := .tup _ (nol_Fs l)
theorem pl_dFs (l : List Rat) : Pl 2 (dFs l) := .tup fun d hd => by
  obtain ⟨x, _, rfl⟩ := List.mem_map.mp hd
  exact pl_F x
theorem eqv_dFs (l m : List Rat) : PyData.eqv (dFs l) (dFs m) = decide (l = m) := by
  simp only [dFs, PyData.eqv]
  exact eqv_Fs l m
theorem dz_F (n : Nat) (x : Rat) : Dz (n + 1) (dF x) := .tup _ _ (by simp) fun d hd => by
  simp only [List.mem_cons, List.not_mem_nil, or_false] at hd
  rcases hd with rfl | rfl <;> exact .int _ _
theorem dz_dFs (n : Nat) {l : List Rat} (h : l.length ≤ 1000) : Dz (n + 2) (dFs l) := .tup _ _ (by simpa using h) fun d hd => by
  obtain ⟨x, _, rfl⟩ := List.mem_map.mp hd
  exact dz_F n x
theorem dz_lF (n : Nat) {l : List Rat} (h : l.length ≤ 1000) : Dz (n + 2) (.list (l.map dF)) := .lst _ _ (by simpa using h) fun d hd => by
  obtain ⟨x, _, rfl⟩ := List.mem_map.mp hd
  exact dz_F n x
theorem ok_half {TT : List (Addr × Str)} (D : Df K mg "_law_half_right" sHalf ["_law_flows_so", "_law_other_so", "_law_wide_so"]) (T : Tx K mg) (GU : Ok' P w K mg base "_law_undone" ["_law_flows_so"] 7 (spUndone K)) (GR : Ok' P w K mg base "_law_ring" ["_law_flows_so"] 7 (spRing K)) (GS : Ok' P w K mg base "is_same" ["row", "other"] 7 (spSame K))
    (GA : Ok' P w K mg base "_law_same" ["_law_near_here", "_law_due"] 7 (spAlike K 3)) (GW : Ok' P w K mg base "_law_words" ["_law_wide_so", "_law_long_so"] 7 (spWords K)) (GX : Ok' P w K mg base "_law_series" ["_law_flows_so", "_law_words_so"] 7 (spSeries K))
    (GL : Ok' P w K mg base "lyndon_words" ["many", "power"] 7 (spLynT TT K)) (GM : Ok' P w K mg base "marks_of" ["row", "many", "power"] 7 (spMarksT TT K)) (GO : Ok' P w K mg base "word_worth" ["row", "word"] 7 (spWorth K)) (GJ : Ok' P w K mg base "row_joined" ["row", "other"] 7 (spJoined K)) (GT : Ok' P w K mg base "row_turned" ["row"] 7 (spTurned K)) :
    Ok' P w K mg base "_law_half_right" ["_law_flows_so", "_law_other_so", "_law_wide_so"] 8 (spHalf TT K) := by
  refine D.ok scHalf (fun vs H Q E h => ?_) (fun f cdv A outer s H vs Q E hr h => ?_)
  · obtain ⟨v, u, a, b, wide, rfl, _⟩ := h; rfl
  · obtain ⟨v, u, a, b, wide, rfl, hv, hu, hw, hBa, hBb, h6a, h6b, hla, hlb, hT, q⟩ := h
    refine' ⟨_, pss_cons ?s0 (pss_cons ?s1 (pss_cons ?s2 (pss_cons ?s3 (pss_cons ?s4 (pss_cons ?s5 (pss_cons ?s6 (pss_cons ?s7 (pss_cons ?s8 (pss_cons ?s9 (pss_cons ?s10 (pss_cons ?s11 (pss_one ?s12)))))))))))), ?fin⟩
    case s0 => exact (ps_set (i := 3) scHalf.nd rfl (.inl rfl) (pe_cf GR hr (pa_cons (pe_op op_catA (pv 0) (pe_cf GU hr (pa_cons (pv 1) pa_nil))) pa_nil)))
    case s1 => exact (ps_set (i := 4) scHalf.nd rfl (.inl rfl) (pe_cmpR (op_eqD hr.units) (pv 3) (pe_tup pa_nil) (nomark _)))
    case s2 => exact (ps_set (i := 5) scHalf.nd rfl (.inl rfl) (pe_callB (call_max2 rfl) (by rfl) T.max (by decide +kernel) (pa_cons pe_int (pa_cons (pe_op op_fdiv (pe_callB call_len_seq (by rfl) T.len PySem.boot_len (pa_cons (pv 3) pa_nil)) pe_int) pa_nil))))
    case s3 => exact (ps_if (pt_cmpR op_gt (pv 5) pe_int (nomark _)) (pss_one (ps_ret (pe_cf GA hr (pa_cons (pe_cf GS hr (pa_cons (pv 0) (pa_cons (pv 1) pa_nil))) (pa_cons (pv 4) pa_nil))))) pss_nil)
    case s4 => exact (ps_set (i := 6) scHalf.nd rfl (.inr rfl) (pe_cf GW hr (pa_cons (pv 2) (pa_cons (pv 5) pa_nil))))
    case s5 => exact (ps_set (i := 7) scHalf.nd rfl (.inr rfl) (pe_lc (own := [("_law_own", 11)]) (g := gName 11) (tt := tYes) rfl scHalf.nd (pi_tup (pe_tup (pa_cons (pv 0) (pa_cons (pv 1) pa_nil)))) (blkOk_by (N := nHalf) (sc := defScope sHalf) (by decide +kernel))
          (fun _ _ _ _ _ => pg_name (i := 11) scHalf.nd rfl (Or.inl rfl)) (fun _ _ _ _ _ => pts_nil)
          (fun _ _ _ _ _ => pe_callTy (call_dictK (K := K) rfl rfl hr.units) (by rfl) T.dict (by decide +kernel) (pa_cons (pe_listZipK (K := K) rfl rfl (by rfl) T.list (by decide +kernel) (by rfl) T.zip (pa_cons (pv 6) (pa_cons (pe_cf GX hr (pa_cons (pv 11) (pa_cons (pv 6) pa_nil))) pa_nil))) pa_nil))))
    case s6 => exact (ps_set (i := 8) scHalf.nd rfl (.inr rfl) (pe_cf GL hr (pa_cons (pv 2) (pa_cons (pv 5) pa_nil))))
    case s7 => exact (ps_set (i := 9) scHalf.nd rfl (.inl rfl) (pe_lst (pa_cons (pe_cf GM hr (pa_cons (pv 0) (pa_cons (pv 2) (pa_cons (pv 5) pa_nil)))) (pa_cons (pe_cf GM hr (pa_cons (pv 1) (pa_cons (pv 2) (pa_cons (pv 5) pa_nil)))) (pa_cons (pe_cf GS hr (pa_cons (pv 0) (pa_cons (pv 1) pa_nil))) pa_nil)))))
    case s8 => exact (ps_set (i := 10) scHalf.nd rfl (.inl rfl) (pe_op op_cat (pe_lc (own := [("_law_k", 12)]) (g := gName 12) (tt := tYes) rfl scHalf.nd (pi_range1 (by rfl) T.range (pa_cons pe_int pa_nil)) (blkOk_by (N := nHalf) (sc := defScope sHalf) (by decide +kernel))
          (fun _ _ _ _ _ => pg_name (i := 12) scHalf.nd rfl (Or.inr rfl)) (fun _ _ _ _ _ => pts_nil)
          (fun _ _ _ _ _ => pe_callTy (call_tupleK (K := K) rfl) (by rfl) T.tuple (by decide +kernel) (pa_cons (pe_lc (own := [("_law_own", 11)]) (g := gName 11) (tt := tYes) rfl scHalf.nd (pi_listK (K := K) rfl (pv 8)) (blkOk_by (N := nHalf) (sc := relS scDue (defScope sHalf)) (by decide +kernel))
            (fun _ _ _ _ _ => pg_name (i := 11) scHalf.nd rfl (Or.inl rfl)) (fun _ _ _ _ _ => pts_nil)
            (fun _ _ _ _ _ => pe_dget (Nat.lt_of_le_of_lt (Nat.add_le_add_left (show 1 ≤ 64 by decide) _) hr.units) (pe_ix (ixl (K := K) rfl) (pv 7) (pv 12) (fun _ _ => rfl)) (pv 11) (fun _ _ => rfl))) pa_nil))) (pe_lst (pa_cons (pv 4) pa_nil))))
    case s9 => exact (ps_expr (pe_bm PySem.F.plainAttrs_list PySem.F.slot_list_append PySem.F.type_list_append mt_append (pv 9) (pa_cons (pe_cmpR (op_eqD hr.units) (pe_ix ix_list (pv 9) pe_int (fun _ _ => rfl)) (pe_ix ix_list (pv 9) pe_int (fun _ _ => rfl)) (nomark _)) pa_nil)))
    case s10 => exact (ps_expr (pe_bm PySem.F.plainAttrs_list PySem.F.slot_list_append PySem.F.type_list_append mt_append (pv 10) (pa_cons (pv 4) pa_nil)))
    case s11 => exact (ps_set (i := 9) scHalf.nd rfl (.inl rfl) (pe_op op_cat (pv 9) (pe_lst (pa_cons (pe_lc (own := [("_law_own", 11)]) (g := gName 11) (tt := tYes) rfl scHalf.nd (pi_list (pe_slice sl_list (pv 6) (po_some (pe_un un_neg pe_int)) po_none)) (blkOk_by (N := nHalf) (sc := defScope sHalf) (by decide +kernel))
          (fun _ _ _ _ _ => pg_name (i := 11) scHalf.nd rfl (Or.inl rfl)) (fun _ _ _ _ _ => pts_nil) (fun _ _ _ _ _ => pe_cf GO hr (pa_cons (pv 0) (pa_cons (pv 11) pa_nil))))
          (pa_cons (pe_cf GS hr (pa_cons (pe_cf GJ hr (pa_cons (pv 0) (pa_cons (pe_cf GT hr (pa_cons (pv 1) pa_nil)) pa_nil))) (pa_cons (pe_tup pa_nil) pa_nil))) pa_nil)))))
    case s12 => exact (ps_ret (pe_cf GA hr (pa_cons (pv 9) (pa_cons (pe_op op_cat (pv 10) (pe_lst (pa_cons (pe_lc (own := [("_law_own", 11)]) (g := gName 11) (tt := tYes) rfl scHalf.nd (pi_list (pe_slice sl_list (pv 6) (po_some (pe_un un_neg pe_int)) po_none)) (blkOk_by (N := nHalf) (sc := defScope sHalf) (by decide +kernel))
          (fun _ _ _ _ _ => pg_name (i := 11) scHalf.nd rfl (Or.inl rfl)) (fun _ _ _ _ _ => pts_nil)
          (fun _ _ _ _ _ => pe_dget (Nat.lt_of_le_of_lt (Nat.add_le_add_left (show 1 ≤ 64 by decide) _) hr.units) (pe_ix (ixl (K := K) rfl) (pv 7) pe_int (fun _ _ => rfl)) (pv 11) (fun _ _ => rfl)))
          (pa_cons (pv 4) pa_nil)))) pa_nil))))
    case fin =>
    have two : 2 ≤ sizeLine := by decide
    have one : 1 ≤ sizeLine := by decide
    have wa := h6a.wt
    have wb := h6b.wt
    have hil : (Lk.inv b).length = b.length := Lk.inv_len b
    have wab : Wt (a ++ Lk.inv b) (24 * a.length + 24 * b.length) := wa.append wb.inv
    have hb1 : 24 * a.length + 24 * b.length ≤ 2 ^ 20 := Nat.le_trans (show _ ≤ 960 by omega) (by decide)
    have sfa : SzF a := wt_szF wa (Nat.le_trans (show _ ≤ 960 by omega) (by decide)) (by omega)
    have sfb : SzF b := wt_szF wb (Nat.le_trans (show _ ≤ 960 by omega) (by decide)) (by omega)
    refine ⟨v, rfl, u, rfl, u, b, rfl, hu, by omega, fun H1 uv s1 huv => ?_⟩
    refine cat_data (hv.same s1) huv (by rw [List.length_map, List.length_map, hil]; exact Nat.le_trans (show _ ≤ 40 by omega) (by decide)) fun H2 cv s2 hcv => ?_
    rw [← List.map_append] at hcv
    refine ⟨cv, a ++ Lk.inv b, rfl, hcv, wt_szG wab hb1 (by rw [List.length_append]; omega), fun H3 rv s3 hrv => ?_⟩
    have s03 := (s1.trans s2).trans s3
    refine ⟨_, rfl, Nat.zero_le _, fun p0 hp0 => ?_⟩
    have s4 := same_upd (o := .tup []) hp0
    refine ⟨dR (Lk.ring (a ++ Lk.inv b)), dR [], hrv.same s4, .tup (SqT.of upd_same) .nil, (pl_R _).sh (by decide), (pl_R _).sh (by decide), ?_⟩
    rw [eqv_R]
    obtain ⟨same, hsame⟩ : ∃ same, same = decide (Lk.ring (a ++ Lk.inv b) = []) := ⟨_, rfl⟩
    rw [← hsame]
    obtain ⟨ar, rs, rfl, hrs, hra⟩ := hrv.R
    have hrl : rs.length = (Lk.ring (a ++ Lk.inv b)).length := by rw [hra.length, List.length_map]
    refine ⟨_, rfl, ar, rs, rfl, .inr (Same.tk s4 _ _ hrs), _, _, rfl, rfl, ⟨by decide, by decide⟩, _, _, rfl, ?_⟩
    obtain ⟨top, htop⟩ : ∃ top, top = Lk.topOf a b := ⟨_, rfl⟩
    have et : (if ((rs.length : Nat) : Int) / 2 > 1 then ((rs.length : Nat) : Int) / 2 else 1) = ((top : Nat) : Int) := by
      rw [htop, hrl]
      unfold Lk.topOf
      split <;> omega
    dsimp only
    rw [et]
    have ht1 : 1 ≤ top := by rw [htop]; exact Nat.le_max_left _ _
    have s04 := s03.trans s4
    refine ⟨_, rfl, _, _, rfl, rfl, _, rfl, ?_⟩
    have ering : decide (Lk.nf a = Lk.nf b) = same := by
      rw [hsame]
      exact decide_eq_decide.mpr (Lk.ring_iff a b).symm
    by_cases htb : 4 < top
    · refine ifT (decide_eq_true (by omega)) ?_
      refine ⟨_, rfl, _, rfl, v, u, a, b, rfl, hv.same s04, hu.same s04, sfa, sfb, fun H5 s5 => ?_⟩
      rw [ering]
      refine ⟨_, rfl, .bl same, .bl same, .bool same, rfl, .bl _, .bl _, .bool _ _, fun H6 s6 => ?_⟩
      have s06 := (s04.trans s5).trans s6
      exact q _ s06.ext (hT.ext s06)
    refine ifF (decide_eq_false (by omega)) ?_
    have ht4 : top ≤ 4 := by omega
    refine ⟨_, rfl, _, rfl, wide, top, rfl, by omega, ht4, fun H5 lw xs s5 hlw hxw => ?_⟩
    have s05 := s04.trans s5
    refine ⟨_, rfl, _, rfl, two, fun tp htp => ?_⟩
    have stp := same_upd (o := .tup [v, u]) htp
    refine ⟨tp, rfl, ⟨_, SqT.of upd_same⟩, fun D hD => ?_⟩
    obtain ⟨H6, eH6⟩ : ∃ H6, H6 = upd H5 tp (.tup [v, u]) := ⟨_, rfl⟩
    rw [← eH6] at stp hD ⊢
    have htpt : H6 tp = some (.tup [v, u]) := by rw [eH6]; exact upd_same
    have s06 := s05.trans stp
    obtain ⟨ws, ews⟩ : ∃ ws, ws = Lk.words wide top := ⟨_, rfl⟩
    have hwsl : ws.length ≤ 405 := by
      rw [ews]
      exact Nat.le_trans (len_wordsB (by omega) top ht4) (Nat.mul_le_mul_left 81 (Nat.succ_le_succ ht4))
    have hwn : ws.Nodup := by rw [ews]; exact words_nd hw ht4
    have hxw6 : WdAll H6 xs ws := by rw [ews]; exact hxw.same stp
    have hlw6 := stp _ _ hlw
    have hrows : ∀ (i : Nat) (x : V), [v, u][i]? = some x → ∃ r : Row, [a, b][i]? = some r ∧ Dp K H6 x (dR r) ∧ SixR r ∧ r.length ≤ 20 := by
      intro i x hx
      match i, hx with
      | 0, hx => cases hx; exact ⟨a, rfl, hv.same s06, h6a, hla⟩
      | 1, hx => cases hx; exact ⟨b, rfl, hu.same s06, h6b, hlb⟩
      | i + 2, hx => simp at hx
    refine lc_it (walk_tup (K := K) (a := tp) (xs := [v, u])) (fun i H' => ∃ acc : List Addr, H' D = some (.lst (acc.map V.ref)) ∧ Same H6 H' ∧ acc.length = i ∧ i ≤ 2 ∧ ∀ (j : Nat) (d : Addr) (r : Row), acc[j]? = some d → [a, b][j]? = some r → DictR K H' d ws r)
      ⟨[], upd_same, same_upd hD, rfl, Nat.zero_le _, fun j d r hj => by simp at hj⟩ (fun i H' _ hp => by obtain ⟨_, _, s', _⟩ := hp; exact SqT.of (s' _ _ htpt)) ?_ ?_
    · rintro i x H7 H8 hi ⟨acc, k1, k2, k3, k4, k5⟩ ⟨rfl, hx⟩
      obtain ⟨r, er, hr1, hr2, hr3⟩ := hrows i x hx
      refine ⟨rfl, _, rfl, _, rfl, _, rfl, x, r, lw, xs, wide, top, rfl, hr1.same k2, hr2, hr3, hw, ht4, k2 _ _ hlw6, by rw [← ews]; exact hxw6.same k2, fun H9 ly ys s9 hly hys => ?_⟩
      rw [← ews] at hys
      have hysl : ys.length = ws.length := by rw [hys.length, List.length_map, List.length_map]
      have hxs9 := (hxw6.same k2).same s9
      refine ⟨lw, ly, xs, ys, rfl, SqL.of (s9 _ _ (k2 _ _ hlw6)), SqL.of hly, by rw [hxs9.1, hysl], fun lz H10 as s10 hlz0 hlz hal hpr => ?_⟩
      obtain ⟨ts, g1, g2, g3⟩ := tri_zip (K := K) (H := H10) ws as xs ys (by rw [hal, hxs9.1]) (hxs9.same s10) hysl hpr
      refine ⟨lz, ts, rfl, SqL.of (by rw [g1]; exact hlz), g2, ?_, fun S hS => ?_⟩
      · have : (ts.map fun t => t.2.1) = (kvW ws ys).map (·.1) := by rw [← g3, List.map_map]; rfl
        rw [this, keys_kvW _ _ hysl.symm]
        exact nodup_kW hwn
      · rw [g3]
        have sS := same_upd (o := .dT (kvW ws ys)) hS
        have s8S := (s9.trans s10).trans sS
        have k1' := s8S _ _ k1
        refine ⟨_, k1', small1000 (by rw [List.length_map]; omega), acc ++ [S], by rw [upd_same, List.map_append]; rfl, (k2.trans s8S).put hD, by rw [List.length_append, k3]; rfl, hi, fun j d r' h1 h2 => ?_⟩
        by_cases hj : j < acc.length
        · rw [List.getElem?_append_left hj] at h1
          exact ((k5 j d r' h1 h2).ext s8S.ext).put k1'
        · obtain rfl : j = acc.length := by
            have := (List.getElem?_eq_some_iff.mp h1).1
            simp at this
            omega
          rw [List.getElem?_append_right (Nat.le_refl _), Nat.sub_self] at h1
          cases h1
          rw [k3, er] at h2
          cases h2
          exact DictR.put ⟨ys, upd_same, hysl, (hys.same s10).same sS⟩ k1'
    · rintro H7 ⟨acc, k1, k2, k3, k4, k5⟩
      have k3 : acc.length = 2 := k3
      have s07 := s06.trans k2
      refine ⟨_, rfl, _, rfl, wide, top, rfl, hw, ht1, ht4, hT.ext s07, fun H8 lt ts x8 t8 hlt hts => ?_⟩
      have x08 : ExtN H H8 := s07.ext.trans x8
      have x68 : ExtN H6 H8 := k2.ext.trans x8
      refine ⟨_, rfl, _, rfl, _, rfl, v, a, wide, top, rfl, hv.ext (nol_R a) x08, hw, ht1, ht4, h6a, hla, t8, fun H9 m1 x9 t9 hm1 => ?_⟩
      have x09 := x08.trans x9
      refine ⟨_, rfl, _, rfl, _, rfl, u, b, wide, top, rfl, hu.ext (nol_R b) x09, hw, ht1, ht4, h6b, hlb, t9, fun H10 m2 x10 t10 hm2 => ?_⟩
      have x010 := x09.trans x10
      refine ⟨_, rfl, _, rfl, v, u, a, b, rfl, hv.ext (nol_R a) x010, hu.ext (nol_R b) x010, sfa, sfb, fun H11 s11 => ?_⟩
      rw [ering]
      refine ⟨by show 3 ≤ sizeLine; decide, fun Lh hLh => ?_⟩
      obtain ⟨La, eLa⟩ : ∃ La, La = (Lk.lynd wide top).map (Lk.worth a) := ⟨_, rfl⟩
      obtain ⟨Lb, eLb⟩ : ∃ Lb, Lb = (Lk.lynd wide top).map (Lk.worth b) := ⟨_, rfl⟩
      have x10_11 := s11.ext
      have x8_11 : ExtN H8 H11 := x9.trans (x10.trans x10_11)
      have x7_11 : ExtN H7 H11 := x8.trans x8_11
      have x6_11 : ExtN H6 H11 := k2.ext.trans x7_11
      have x0_11 := x010.trans x10_11
      have t11 := t10.ext s11
      have hD11 := x7_11 _ _ k1 (by intro ps z; cases z)
      have hdict : ∀ (j : Nat) (d : Addr) (r : Row), acc[j]? = some d → [a, b][j]? = some r → DictR K H11 d ws r := fun j d r h1 h2 => (k5 j d r h1 h2).ext x7_11
      have hlt11 := x8_11 _ _ hlt (by intro ps z; cases z)
      have hts11 := hts.ext x8_11
      have hlw11 := x6_11 _ _ hlw6 (by intro ps z; cases z)
      have hxw11 := hxw6.ext x6_11
      have hv11 := hv.ext (nol_R a) x0_11
      have hu11 := hu.ext (nol_R b) x0_11
      rw [← eLa] at hm1
      rw [← eLb] at hm2
      have hm1' := hm1.ext (nol_dFs La) (x10.trans x10_11)
      have hm2' := hm2.ext (nol_dFs Lb) x10_11
      obtain ⟨hL1, hL2⟩ := lynd_ok hw ht1 ht4
      have hlynd : ∀ wd ∈ Lk.lynd wide top, wd ∈ ws := fun wd h => by
        rw [ews]
        unfold Lk.lynd at h
        exact (List.mem_filter.mp h).1
      have hws4 : ∀ wd ∈ ws, wd.length ≤ 4 := fun wd h => by
        rw [ews] at h
        exact Nat.le_trans (Lk.len_words top wd h).1 ht4
      have hLal : La.length ≤ 1000 := by rw [eLa, List.length_map]; exact hL1
      have esame : decide (La = Lb) = same := by
        rw [hsame, eLa, eLb]
        refine decide_eq_decide.mpr ?_
        rw [List.map_inj_left, htop]
        exact Lk.law_plain hw hBa hBb (by rw [← htop]; exact ht4)
      clear k1 k5 hm1 hm2 hlt hts hlw6 hxw6 hlw hxw hrows
      have s12 := same_upd (o := .lst [m1, m2, .bl same]) hLh
      obtain ⟨H12, eH12⟩ : ∃ H12, H12 = upd H11 Lh (.lst [m1, m2, .bl same]) := ⟨_, rfl⟩
      rw [← eH12] at s12 ⊢
      have hLh12 : H12 Lh = some (.lst [m1, m2, .bl same]) := by rw [eH12]; exact upd_same
      refine ⟨2, rfl, by decide, by decide, fun D2 hD2 => ?_⟩
      have hD2n : H11 D2 = none := s12.free hD2
      refine lc_it (walk_range (n := 2)) (fun i H' => ∃ ys, H' D2 = some (.lst ys) ∧ Same H12 H' ∧ i ≤ 2 ∧ DpAll K H' ys (([a, b].take i).map fun r => dFs ((Lk.lynd wide top).map (Lk.worth r))))
        ⟨[], upd_same, same_upd hD2, by omega, .nil⟩ (fun _ _ _ _ => True.intro) ?_ ?_
      · rintro i x H13 H14 hi ⟨ys, d1, d2, d3, d4⟩ ⟨rfl, rfl⟩
        have s14 := s12.trans d2
        obtain ⟨r, er⟩ : ∃ r : Row, [a, b][i]? = some r := ⟨[a, b][i]'(by simpa using hi), by simp⟩
        obtain ⟨d, ed⟩ : ∃ d, acc[i]? = some d := ⟨acc[i]'(by omega), by simp⟩
        have hdr := (hdict i d r ed er).ext s14.ext
        refine ⟨rfl, _, rfl, lt, rfl, ⟨_, SqL.of (s14 _ _ hlt11)⟩, fun D3 hD3 => ?_⟩
        have htsl : ts.length = (Lk.lynd wide top).length := hts11.1
        refine lc_map (K := K) (walk_list (K := K) (a := lt) (xs := ts)) (((Lk.lynd wide top).map (Lk.worth r)).map dF) (by rw [List.length_map, List.length_map]; exact htsl.symm) (by rw [htsl]; exact hL1) (nol_Fs _) hD3 (fun H' s' => SqL.of (s' _ _ (s14 _ _ hlt11))) yat_same ?_ gName_mono ?_
        · rintro j y H15 H16 d' R ed' s15 ⟨rfl, hy⟩ hR
          rw [List.getElem?_map, List.getElem?_map] at ed'
          cases hj : (Lk.lynd wide top)[j]? with
          | none => rw [hj] at ed'; cases ed'
          | some wd =>
            rw [hj] at ed'
            cases ed'
            obtain ⟨aw, g1, g2⟩ := hts11.2 j wd hj
            rw [hy] at g1
            cases g1
            have s16 := s14.trans s15
            obtain ⟨val, g3, g4⟩ := (hdr.ext s15.ext).get hwn (s16 _ _ g2) (hlynd wd (List.mem_of_getElem? hj))
            refine ⟨rfl, _, rfl, _, rfl, D, acc.map V.ref, _, .ref d, rfl, rfl, SqL.of (s16 _ _ hD11), at_of (j := i) (by show (0 : Int) + (i : Int) = (i : Int); omega) (by rw [List.getElem?_map, ed]; rfl), _, rfl, d, val, rfl, g3, hR _ _ (Same.refl _) g4⟩
        · intro H15 zs s15 e1 e2
          refine ⟨D3, zs, rfl, .inl ⟨SqL.of e1, fun l hl => ?_⟩⟩
          have sl := s15.new (o := .tup zs) hl
          have d1' := sl _ _ d1
          have hyl : ys.length ≤ 2 := by rw [d4.length, List.length_map, List.length_take]; exact Nat.min_le_right _ _
          refine ⟨ys, d1', small1000 (by omega), ys ++ [.ref l], upd_same, (d2.trans sl).put hD2, hi, ?_⟩
          rw [List.take_add_one, er, Option.toList_some, List.map_append, List.map_singleton]
          refine ((d4.same sl).snoc (.tup (SqT.of upd_same) (e2.same (same_upd hl)))).tk ?_ (tk_updL d1')
          intro dd hdd
          rcases List.mem_append.mp hdd with hdd | hdd
          · obtain ⟨r', _, rfl⟩ := List.mem_map.mp hdd
            exact nol_dFs _
          · rw [List.mem_singleton.mp hdd]
            exact nol_dFs ((Lk.lynd wide top).map (Lk.worth r))
      · rintro H13 ⟨ys, d1, d2, d3, d4⟩
        refine ⟨_, rfl, one, fun L1 hL1' => ?_⟩
        have sL1 := same_upd (o := .lst [.bl same]) hL1'
        have hyl : ys.length = 2 := by rw [d4.length]; rfl
        refine ⟨D2, L1, ys, [.bl same], rfl, rfl, sL1 _ _ d1, upd_same, by rw [hyl]; exact (by decide : 2 + 1 ≤ sizeLine), fun Ld hLd => ?_⟩
        have sLd := same_upd (o := .lst (ys ++ [.bl same])) hLd
        have s13 := (d2.trans sL1).trans sLd
        have s113 := s12.trans s13
        have d4' : DpAll K (upd (upd H13 L1 (.lst [.bl same])) Ld (.lst (ys ++ [.bl same]))) (ys ++ [.bl same]) [dFs La, dFs Lb, .bool same] := by
          rw [eLa, eLb]
          exact (d4.same (sL1.trans sLd)).snoc (.bl same)
        obtain ⟨H14, eH14⟩ : ∃ H14, H14 = upd (upd H13 L1 (.lst [.bl same])) Ld (.lst (ys ++ [.bl same])) := ⟨_, rfl⟩
        have hLd14 : H14 Ld = some (.lst (ys ++ [.bl same])) := by rw [eH14]; exact upd_same
        rw [← eH14] at s113 d4' s13 ⊢
        have hLh14 := s13 _ _ hLh12
        have hLdn : H11 Ld = none := ((s12.trans d2).trans sL1).free hLd
        have hne : Ld ≠ Lh := (ne_of_none ((d2.trans sL1) _ _ hLh12) hLd).symm
        have m1_14 := hm1'.same s113
        have m2_14 := hm2'.same s113
        refine ⟨_, rfl, .inl ⟨rfl, _, SqL.of hLh14⟩, _, rfl, Lh, _, _, m1, rfl, rfl, SqL.of hLh14, rfl, _, rfl, Lh, _, _, m2, rfl, rfl, SqL.of hLh14, rfl, dFs La, dFs Lb, m1_14, m2_14, (pl_dFs _).sh (by decide), (pl_dFs _).sh (by decide), Lh, _, _, rfl, rfl, hLh14, small1000 (by decide : 3 ≤ 1000), ?_⟩
        rw [eqv_dFs, esame]
        have s15 : Same H11 (upd H14 Lh (.lst ([m1, m2, .bl same] ++ [.bl same]))) := s113.put hLh
        obtain ⟨H15, eH15⟩ : ∃ H15, H15 = upd H14 Lh (.lst ([m1, m2, .bl same] ++ [.bl same])) := ⟨_, rfl⟩
        have hLh15 : H15 Lh = some (.lst ([m1, m2, .bl same] ++ [.bl same])) := by rw [eH15]; exact upd_same
        have hLd15 : H15 Ld = some (.lst (ys ++ [.bl same])) := by rw [eH15, upd_ne hne]; exact hLd14
        rw [← eH15] at s15 ⊢
        refine ⟨_, rfl, .inl ⟨rfl, _, SqL.of hLd15⟩, _, rfl, Ld, _, _, rfl, rfl, hLd15, small1000 (by rw [List.length_append, hyl]; exact (by decide : 2 + 1 ≤ 1000)), ?_⟩
        have s16 : Same H11 (upd H15 Ld (.lst ((ys ++ [.bl same]) ++ [.bl same]))) := s15.put hLdn
        obtain ⟨H16, eH16⟩ : ∃ H16, H16 = upd H15 Ld (.lst ((ys ++ [.bl same]) ++ [.bl same])) := ⟨_, rfl⟩
        have hLd16 : H16 Ld = some (.lst ((ys ++ [.bl same]) ++ [.bl same])) := by rw [eH16]; exact upd_same
        have hLh16 : H16 Lh = some (.lst ([m1, m2, .bl same] ++ [.bl same])) := by rw [eH16, upd_ne hne.symm]; exact hLh15
        rw [← eH16] at s16 ⊢
        have hdue16 : DpAll K H16 ((ys ++ [.bl same]) ++ [.bl same]) ([dFs La, dFs Lb, .bool same] ++ [.bool same]) := by
          have tk : Tk K H14 H16 := fun c cs hc => by
            rw [eH16, eH15]
            exact tk_updL (K := K) (show upd H14 Lh (.lst ([m1, m2, .bl same] ++ [.bl same])) Ld = some (.lst (ys ++ [.bl same])) by rw [upd_ne hne]; exact hLd14) _ _ (tk_updL hLh14 _ _ hc)
          refine ((d4'.snoc (.bl same)).tk ?_ tk)
          intro dd hdd
          simp only [List.cons_append, List.nil_append, List.mem_cons, List.not_mem_nil, or_false] at hdd
          rcases hdd with rfl | rfl | rfl | rfl
          · exact nol_dFs _
          · exact nol_dFs _
          · exact .bl _
          · exact .bl _
        have hhd16 : DpAll K H16 ([m1, m2, .bl same] ++ [.bl same]) ([dFs La, dFs Lb, .bool same] ++ [.bool same]) := .cons (hm1'.same s16) (.cons (hm2'.same s16) (.cons (.bl _) (.cons (.bl _) .nil)))
        have hxl : xs.length = ws.length := hxw11.1
        refine ⟨_, rfl, _, rfl, _, rfl, _, rfl, ?_⟩
        dsimp only [tNoPart]
        refine ⟨lw, xs, rfl, SqL.of (s16 _ _ hlw11), fun C hC => ⟨C, rfl, ⟨_, SqL.of upd_same⟩, fun D4 hD4 => ?_⟩⟩
        obtain ⟨i0, n0, ecut⟩ : ∃ i0 n0, cutV xs (some (-4)) none = (xs.drop i0).take n0 := ⟨_, _, rfl⟩
        rw [ecut] at hD4 ⊢
        obtain ⟨wl, ewl⟩ : ∃ wl, wl = (ws.drop i0).take n0 := ⟨_, rfl⟩
        have hwlm : ∀ wd ∈ wl, wd ∈ ws := fun wd h => by
          rw [ewl] at h
          exact List.mem_of_mem_drop (List.mem_of_mem_take h)
        have hwl11 : WdAll H11 ((xs.drop i0).take n0) wl := by rw [ewl]; exact hxw11.sub i0 n0
        have hwll : wl.length ≤ 405 := by
          rw [ewl, List.length_take, List.length_drop]
          omega
        have sC := same_upd (o := .lst ((xs.drop i0).take n0)) hC
        have s17 := s16.trans sC
        have hcl : ((xs.drop i0).take n0).length = wl.length := hwl11.1
        refine lc_map (K := K) (walk_list (K := K) (a := C) (xs := (xs.drop i0).take n0)) ((wl.map (Lk.worth a)).map dF) (by rw [List.length_map, List.length_map]; exact hcl.symm) (by omega) (nol_Fs _) hD4 (fun H' s' => SqL.of (s' _ _ upd_same)) yat_same ?_ gName_mono ?_
        · rintro j y H18 H19 d' R ed' s18 ⟨rfl, hy⟩ hR
          rw [List.getElem?_map, List.getElem?_map] at ed'
          cases hj : wl[j]? with
          | none => rw [hj] at ed'; cases ed'
          | some wd =>
            rw [hj] at ed'
            cases ed'
            obtain ⟨aw, g1, g2, g3⟩ := (hwl11.same (s17.trans s18)).dp (K := K) hj
            rw [hy] at g1
            cases g1
            exact ⟨rfl, _, rfl, _, rfl, v, .ref aw, a, wd, rfl, hv11.same (s17.trans s18), g3, hws4 wd (hwlm wd (List.mem_of_getElem? hj)), h6a, hla, hR⟩
        · intro H18 zs s18 e1 e2
          have s1_18 := s17.trans s18
          refine ⟨_, rfl, _, rfl, u, b, rfl, hu11.same s1_18, ⟨by omega, fun p hp => (sfb.2.1 p hp)⟩, fun H19 tv s19 htv => ?_⟩
          have s1_19 := s1_18.trans s19
          refine ⟨v, tv, a, Lk.inv b, rfl, hv11.same s1_19, htv, by omega, by omega, fun H20 jv s20 hjv => ?_⟩
          refine ⟨Nat.zero_le _, fun p1 hp1 => ?_⟩
          have s21 := same_upd (o := .tup []) hp1
          refine ⟨jv, .ref p1, a ++ Lk.inv b, [], rfl, hjv.same s21, .tup (SqT.of upd_same) .nil, wt_szF wab hb1 (by rw [List.length_append]; omega), wt_szF (r := []) (n := 0) trivial (by decide) (by decide), fun H22 s22 => ?_⟩
          have ejoin : decide (Lk.nf (a ++ Lk.inv b) = Lk.nf []) = same := by
            rw [hsame]
            exact decide_eq_decide.mpr (Lk.joined_same a b)
          rw [ejoin]
          refine ⟨two, fun L5 hL5 => ?_⟩
          have s18_22 := ((s19.trans s20).trans s21).trans s22
          have s23 := same_upd (o := .lst [.ref D4, .bl same]) hL5
          have s18_23 := s18_22.trans s23
          have s16_23 := (sC.trans s18).trans s18_23
          refine ⟨Lh, L5, _, _, rfl, rfl, s16_23 _ _ hLh16, upd_same, (by decide : 4 + 2 ≤ sizeLine), fun Lz hLz => ?_⟩
          have s24 := same_upd (o := .lst (([m1, m2, .bl same] ++ [.bl same]) ++ [.ref D4, .bl same])) hLz
          have s18_24 := s18_23.trans s24
          have s16_24 := s16_23.trans s24
          obtain ⟨H24, eH24⟩ : ∃ H24, H24 = upd (upd H22 L5 (.lst [.ref D4, .bl same])) Lz (.lst (([m1, m2, .bl same] ++ [.bl same]) ++ [.ref D4, .bl same])) := ⟨_, rfl⟩
          have hLz24 : H24 Lz = some (.lst (([m1, m2, .bl same] ++ [.bl same]) ++ [.ref D4, .bl same])) := by rw [eH24]; exact upd_same
          rw [← eH24] at s18_24 s16_24 ⊢
          clear s24 s23 s18_23 s16_23 eH24
          have hz24 : DpAll K H24 (([m1, m2, .bl same] ++ [.bl same]) ++ [.ref D4, .bl same]) (([dFs La, dFs Lb, .bool same] ++ [.bool same]) ++ [.list ((wl.map (Lk.worth a)).map dF), .bool same]) :=
            (hhd16.same s16_24).append (.cons (.lst (SqL.of (s18_24 _ _ e1)) (e2.same s18_24)) (.cons (.bl _) .nil))
          have s1_24 := s16.trans s16_24
          obtain ⟨da, hda⟩ : ∃ da, acc[0]? = some da := ⟨acc[0]'(by omega), by simp⟩
          have hdra := (hdict 0 da a hda rfl).ext s1_24.ext
          refine ⟨_, rfl, _, rfl, _, rfl, _, rfl, _, rfl, ?_⟩
          dsimp only [tNoPart]
          refine ⟨lw, xs, rfl, SqL.of (s1_24 _ _ hlw11), fun C2 hC2 => ⟨C2, rfl, ⟨_, SqL.of upd_same⟩, fun D5 hD5 => ?_⟩⟩
          rw [ecut] at hD5 ⊢
          have sC2 := same_upd (o := .lst ((xs.drop i0).take n0)) hC2
          have s1_25 := s1_24.trans sC2
          refine lc_map (K := K) (walk_list (K := K) (a := C2) (xs := (xs.drop i0).take n0)) ((wl.map (Lk.worth a)).map dF) (by rw [List.length_map, List.length_map]; exact hcl.symm) (by omega) (nol_Fs _) hD5 (fun H' s' => SqL.of (s' _ _ upd_same)) yat_same ?_ gName_mono ?_
          · rintro j y H26 H27 d' R ed' s26 ⟨rfl, hy⟩ hR
            rw [List.getElem?_map, List.getElem?_map] at ed'
            cases hj : wl[j]? with
            | none => rw [hj] at ed'; cases ed'
            | some wd =>
              rw [hj] at ed'
              cases ed'
              obtain ⟨aw, g1, g2⟩ := (hwl11.same (s1_25.trans s26)).2 j wd hj
              rw [hy] at g1
              cases g1
              obtain ⟨val, g3, g4⟩ := (hdra.ext (sC2.trans s26).ext).get hwn g2 (hwlm wd (List.mem_of_getElem? hj))
              exact ⟨rfl, _, rfl, D, acc.map V.ref, _, .ref da, rfl, rfl, SqL.of ((s1_25.trans s26) _ _ hD11), at_of (j := 0) rfl (by rw [List.getElem?_map, hda]; rfl), _, rfl, da, val, rfl, g3, hR _ _ (Same.refl _) g4⟩
          · intro H26 zs2 s26 f1 f2
            refine ⟨_, rfl, two, fun L6 hL6 => ?_⟩
            have s27 := same_upd (o := .lst [.ref D5, .bl same]) hL6
            have s16_27 := (s16_24.trans sC2).trans (s26.trans s27)
            refine ⟨Ld, L6, _, _, rfl, rfl, s16_27 _ _ hLd16, upd_same, by rw [List.length_append, List.length_append, hyl]; exact (by decide : 2 + 1 + 1 + 2 ≤ sizeLine), fun Lw hLw => ?_⟩
            have s28 := same_upd (o := .lst (((ys ++ [.bl same]) ++ [.bl same]) ++ [.ref D5, .bl same])) hLw
            have s26_28 := s27.trans s28
            have s24_28 := (sC2.trans s26).trans s26_28
            have s16_28 := s16_24.trans s24_28
            refine ⟨.ref Lz, .ref Lw, .list (([dFs La, dFs Lb, .bool same] ++ [.bool same]) ++ [.list ((wl.map (Lk.worth a)).map dF), .bool same]), rfl, .lst (SqL.of (s24_28 _ _ hLz24)) (hz24.same s24_28),
              .lst (SqL.of upd_same) ((hdue16.same s16_28).append (.cons (.lst (SqL.of (s26_28 _ _ f1)) (f2.same s26_28)) (.cons (.bl _) .nil))), .lst _ _ (by show 6 ≤ 1000; decide) (fun dd hdd => ?_), fun Hf sf => ?_⟩
            · simp only [List.cons_append, List.nil_append, List.mem_cons, List.not_mem_nil, or_false] at hdd
              rcases hdd with rfl | rfl | rfl | rfl | rfl | rfl
              · exact dz_dFs 0 hLal
              · exact dz_dFs 0 (by rw [eLb, List.length_map]; exact hL1)
              · exact .bool _ _
              · exact .bool _ _
              · exact dz_lF 0 (by rw [List.length_map]; omega)
              · exact .bool _ _
            · have sF := (s16.trans s16_28).trans sf
              exact q _ (x0_11.trans sF.ext) (t11.ext sF)
end
end L2

set_option Elab.async false
set_option linter.all false
set_option maxRecDepth 100000
set_option maxHeartbeats 16000000
namespace L2
open PySem PySem.Spec PyProof.Rows
open LamX (ExtN Tabs TabB TabS lam_make2 CodeO)
open Lk (Six SixR Wt Below)
/-! ## by hand -/
def six : Row := [(0, 1), (1, -2), (0, 1), (1, 1), (0, -2), (1, 1)]
def four : Row := [(0, 1), (1, 1), (0, -1), (1, -1)]
theorem hand1 : (Lk.lynd 2 2).map (Lk.worth six) = [0, 0, 0] := by decide +kernel
theorem hand2 : decide ((Lk.lynd 2 3).map (Lk.worth six) = (Lk.lynd 2 3).map (Lk.worth [])) = false := by decide +kernel
theorem hand3 : (Lk.lynd 2 1).map (Lk.worth four) = [0, 0] := by decide +kernel
theorem hand4 : (Lk.lynd 2 2).map (Lk.worth four) = [0, 0, 1] := by decide +kernel
theorem hand5 : Lk.ring [(0, 1), (1, 1), (0, -1)] = [(1, 1)] := by decide +kernel
theorem hand6 : (Lk.ring (six ++ [(0, 1)])).length = 6 := by decide +kernel
theorem hand7 : Lk.ring [(0, 1), (0, -1)] = [] := by decide +kernel
theorem six_one : Six 1 := ⟨6, by decide +kernel, by decide⟩
theorem six_neg : Six (-1) := ⟨-6, by decide +kernel, by decide⟩
theorem six_two : Six (-2) := ⟨-12, by decide +kernel, by decide⟩
theorem sixR_six : SixR six := fun a ha => by
  simp only [six, List.mem_cons, List.not_mem_nil, or_false] at ha
  rcases ha with rfl | rfl | rfl | rfl | rfl | rfl
  · exact six_one
  · exact six_two
  · exact six_one
  · exact six_one
  · exact six_two
  · exact six_one
theorem sixR_four : SixR four := fun a ha => by
  simp only [four, List.mem_cons, List.not_mem_nil, or_false] at ha
  rcases ha with rfl | rfl | rfl | rfl
  · exact six_one
  · exact six_one
  · exact six_neg
  · exact six_neg
theorem below_six : Below 2 six := by unfold Lk.Below; decide +kernel
theorem below_four : Below 2 four := by unfold Lk.Below; decide +kernel
theorem sixR_nil : SixR [] := fun a ha => nomatch ha
theorem six_szG {r : Row} (h : SixR r) (hl : r.length ≤ 100) : SzG r := wt_szG h.wt (Nat.le_trans (show _ ≤ 2400 by omega) (by decide)) (by omega)
section
variable {P : Program} {w : World} {K : PySem.W.Frag} {mg : Str → Option Value} {base : Heap}
theorem newF {H : Hp} {p : Addr} {x : Rat} {i j : Int} (h : H p = none) (e : x.num = i ∧ (x.den : Int) = j) : Same H (upd H p (.tup [.int i, .int j])) ∧ Dp K (upd H p (.tup [.int i, .int j])) (.ref p) (dF x) := by
  obtain ⟨rfl, rfl⟩ := e
  exact ⟨same_upd h, Dp.mkF (SqT.of upd_same)⟩
theorem dz_R (n : Nat) {r : Row} (h : r.length ≤ 1000) : Dz (n + 3) (dR r) := .tup _ _ (by simpa using h) fun d hd => by
  obtain ⟨a, _, rfl⟩ := List.mem_map.mp hd
  refine .tup _ _ (by simp) fun d hd => ?_
  simp only [List.mem_cons, List.not_mem_nil, or_false] at hd
  rcases hd with rfl | rfl
  · exact .int _ _
  · exact dz_F n _
theorem pe_cf0 {X : Cx} {x : Str} {k : Nat} {sp : Sp} {p pos : Pos} (G : Ok' X.prog X.w X.K X.mg X.base x [] k sp) (hr : Room k X.A) (hg : Gl X x := by rfl) (hdb : (x == ("__debug__" : Str)) = false := by decide) : PE X (.Call (.Name x p) [] [] pos) (tCall sp [] E0 tNil) := by
  obtain ⟨f, fd, F, hm, kp, b⟩ := G.ex
  exact pe_call0 F hr hg hm kp b .nil pass0 hdb
def spHand (TT : List (Addr × Str)) (K : PySem.W.Frag) : Sp := fun vs H Q _ => vs = [] ∧ Tabs TT H ∧ ∀ H', ExtN H H' → Tabs TT H' → Q (.bl true) H'
abbrev sHand : Stmt := topS 48
abbrev nHand : List Str := ["_law_one", "_law_back", "_law_six_so", "_law_four_so", "_law_heard_so", "_law_due"]
theorem scHand : FnScope nHand [] (defScope sHand) := ⟨rfl, rfl, rfl, by decide +kernel, rfl, by decide +kernel, by decide +kernel⟩
theorem ok_hand {TT : List (Addr × Str)} (D : Df K mg "_law_by_hand_right" sHand []) (T : Tx K mg) (GR : Ok' P w K mg base "_law_ring" ["_law_flows_so"] 8 (spRing K)) (GA : Ok' P w K mg base "_law_same" ["_law_near_here", "_law_due"] 8 (spAlike K 4))
    (GM : Ok' P w K mg base "marks_of" ["row", "many", "power"] 8 (spMarksT TT K)) (GH : Ok' P w K mg base "_law_half_right" ["_law_flows_so", "_law_other_so", "_law_wide_so"] 8 (spHalf TT K)) : Ok' P w K mg base "_law_by_hand_right" [] 9 (spHand TT K) := by
  refine D.ok scHand (fun vs H Q E h => ?_) (fun f cdv A outer s H vs Q E hr h => ?_)
  · obtain ⟨rfl, _⟩ := h; rfl
  · obtain ⟨rfl, hT, q⟩ := h
    refine' ⟨_, pss_cons ?s0 (pss_cons ?s1 (pss_cons ?s2 (pss_cons ?s3 (pss_cons ?s4 (pss_cons ?s5 (pss_cons ?s6 (pss_one ?s7))))))), ?fin⟩
    case s0 => exact ps_asg (pe_tup (pa_cons (pe_tup (pa_cons pe_int (pa_cons pe_int pa_nil))) (pa_cons (pe_tup (pa_cons (pe_un un_neg pe_int) (pa_cons pe_int pa_nil))) pa_nil))) (pg_tup rfl (pgs_cons (pg_name (i := 0) scHand.nd rfl (Or.inl rfl)) (pgs_cons (pg_name (i := 1) scHand.nd rfl (Or.inl rfl)) pgs_nil)))
    case s1 => exact ps_set (i := 2) scHand.nd rfl (.inl rfl) (pe_tup (pa_cons (pe_tup (pa_cons pe_int (pa_cons (pv 0) pa_nil))) (pa_cons (pe_tup (pa_cons pe_int (pa_cons (pe_tup (pa_cons (pe_un un_neg pe_int) (pa_cons pe_int pa_nil))) pa_nil))) (pa_cons (pe_tup (pa_cons pe_int (pa_cons (pv 0) pa_nil)))
      (pa_cons (pe_tup (pa_cons pe_int (pa_cons (pv 0) pa_nil))) (pa_cons (pe_tup (pa_cons pe_int (pa_cons (pe_tup (pa_cons (pe_un un_neg pe_int) (pa_cons pe_int pa_nil))) pa_nil))) (pa_cons (pe_tup (pa_cons pe_int (pa_cons (pv 0) pa_nil))) pa_nil)))))))
    case s2 => exact ps_set (i := 3) scHand.nd rfl (.inl rfl) (pe_tup (pa_cons (pe_tup (pa_cons pe_int (pa_cons (pv 0) pa_nil))) (pa_cons (pe_tup (pa_cons pe_int (pa_cons (pv 0) pa_nil))) (pa_cons (pe_tup (pa_cons pe_int (pa_cons (pv 1) pa_nil))) (pa_cons (pe_tup (pa_cons pe_int (pa_cons (pv 1) pa_nil))) pa_nil)))))
    case s3 => exact ps_set (i := 4) scHand.nd rfl (.inl rfl) (pe_lst (pa_cons (pe_cf GM hr (pa_cons (pv 2) (pa_cons pe_int (pa_cons pe_int pa_nil)))) (pa_cons (pe_cmpR (op_eqD hr.units) (pe_cf GM hr (pa_cons (pv 2) (pa_cons pe_int (pa_cons pe_int pa_nil)))) (pe_cf GM hr (pa_cons (pe_tup pa_nil) (pa_cons pe_int (pa_cons pe_int pa_nil)))) (nomark _))
      (pa_cons (pe_cf GM hr (pa_cons (pv 3) (pa_cons pe_int (pa_cons pe_int pa_nil)))) (pa_cons (pe_cf GM hr (pa_cons (pv 3) (pa_cons pe_int (pa_cons pe_int pa_nil)))) pa_nil)))))
    case s4 => exact ps_set (i := 5) scHand.nd rfl (.inl rfl) (pe_lst (pa_cons (pe_tup (pa_cons (pe_tup (pa_cons pe_int (pa_cons pe_int pa_nil))) (pa_cons (pe_tup (pa_cons pe_int (pa_cons pe_int pa_nil))) (pa_cons (pe_tup (pa_cons pe_int (pa_cons pe_int pa_nil))) pa_nil)))) (pa_cons pe_bl
      (pa_cons (pe_tup (pa_cons (pe_tup (pa_cons pe_int (pa_cons pe_int pa_nil))) (pa_cons (pe_tup (pa_cons pe_int (pa_cons pe_int pa_nil))) pa_nil))) (pa_cons (pe_tup (pa_cons (pe_tup (pa_cons pe_int (pa_cons pe_int pa_nil))) (pa_cons (pe_tup (pa_cons pe_int (pa_cons pe_int pa_nil))) (pa_cons (pe_tup (pa_cons pe_int (pa_cons pe_int pa_nil))) pa_nil)))) pa_nil)))))
    case s5 => exact ps_set (i := 4) scHand.nd rfl (.inl rfl) (pe_op op_cat (pv 4) (pe_lst (pa_cons (pe_cf GR hr (pa_cons (pe_tup (pa_cons (pe_tup (pa_cons pe_int (pa_cons (pv 0) pa_nil))) (pa_cons (pe_tup (pa_cons pe_int (pa_cons (pv 0) pa_nil))) (pa_cons (pe_tup (pa_cons pe_int (pa_cons (pv 1) pa_nil))) pa_nil)))) pa_nil))
      (pa_cons (pe_callB call_len_seq (by rfl) T.len PySem.boot_len (pa_cons (pe_cf GR hr (pa_cons (pe_op op_catA (pv 2) (pe_tup (pa_cons (pe_tup (pa_cons pe_int (pa_cons (pv 0) pa_nil))) pa_nil))) pa_nil)) pa_nil))
      (pa_cons (pe_cf GR hr (pa_cons (pe_tup (pa_cons (pe_tup (pa_cons pe_int (pa_cons (pv 0) pa_nil))) (pa_cons (pe_tup (pa_cons pe_int (pa_cons (pv 1) pa_nil))) pa_nil))) pa_nil)) pa_nil)))))
    case s6 => exact ps_set (i := 5) scHand.nd rfl (.inl rfl) (pe_op op_cat (pv 5) (pe_lst (pa_cons (pe_tup (pa_cons (pe_tup (pa_cons pe_int (pa_cons (pv 0) pa_nil))) pa_nil)) (pa_cons pe_int (pa_cons (pe_tup pa_nil) pa_nil)))))
    case s7 => exact ps_ret (pe_and (pe_cf GA hr (pa_cons (pv 4) (pa_cons (pv 5) pa_nil))) (pe_and (pe_cf GH hr (pa_cons (pv 2) (pa_cons (pe_tup pa_nil) (pa_cons pe_int pa_nil)))) (pe_one (pe_cf GH hr (pa_cons (pv 3) (pa_cons (pe_revT (pv 3)) (pa_cons pe_int pa_nil)))))))
    case fin =>
      have two : 2 ≤ sizeLine := by decide
      have e1 : (1 : Rat).num = 1 ∧ ((1 : Rat).den : Int) = 1 := by decide
      have e0 : (0 : Rat).num = 0 ∧ ((0 : Rat).den : Int) = 1 := by decide
      have em : (-1 : Rat).num = -1 ∧ ((-1 : Rat).den : Int) = 1 := by decide +kernel
      have e2 : (-2 : Rat).num = -2 ∧ ((-2 : Rat).den : Int) = 1 := by decide +kernel
      -- the two numbers
      refine ⟨two, fun po ho => ⟨_, rfl, two, fun pb hb => ⟨two, fun pt ht => ?_⟩⟩⟩
      obtain ⟨so, do0⟩ := newF (K := K) (x := 1) ho e1
      obtain ⟨sb, db0⟩ := newF (K := K) (x := -1) hb em
      have st := same_upd (o := .tup [.ref po, .ref pb]) ht
      refine ⟨pt, _, rfl, SqT.of upd_same, rfl, _, _, rfl, _, _, rfl, rfl, ?_⟩
      have do1 := (do0.same sb).same st
      have db1 := db0.same st
      have sA := (so.trans sb).trans st
      obtain ⟨HA, eA⟩ : ∃ HA, HA = upd (upd (upd H po (.tup [.int 1, .int 1])) pb (.tup [.int (-1), .int 1])) pt (.tup [.ref po, .ref pb]) := ⟨_, rfl⟩
      rw [← eA] at do1 db1 sA ⊢
      clear st sb so do0 db0 ht hb ho eA
      -- the six
      refine ⟨_, rfl, two, fun a1 h1 => ?_⟩
      obtain ⟨s1, d1⟩ := newP (K := K) (a := 0) h1 do1
      refine ⟨_, rfl, two, fun f2 g2 => ⟨two, fun a2 h2 => ?_⟩⟩
      obtain ⟨t2, c2⟩ := newF (K := K) (x := -2) g2 e2
      obtain ⟨s2, d2⟩ := newP (K := K) (a := 1) h2 c2
      refine ⟨_, rfl, two, fun a3 h3 => ?_⟩
      obtain ⟨s3, d3⟩ := newP (K := K) (a := 0) h3 (do1.same (s1.trans (t2.trans s2)))
      refine ⟨_, rfl, two, fun a4 h4 => ?_⟩
      obtain ⟨s4, d4⟩ := newP (K := K) (a := 1) h4 (do1.same ((s1.trans (t2.trans s2)).trans s3))
      refine ⟨_, rfl, two, fun f5 g5 => ⟨two, fun a5 h5 => ?_⟩⟩
      obtain ⟨t5, c5⟩ := newF (K := K) (x := -2) g5 e2
      obtain ⟨s5, d5⟩ := newP (K := K) (a := 0) h5 c5
      refine ⟨_, rfl, two, fun a6 h6 => ?_⟩
      obtain ⟨s6, d6⟩ := newP (K := K) (a := 1) h6 (do1.same ((((s1.trans (t2.trans s2)).trans s3).trans s4).trans (t5.trans s5)))
      refine ⟨by show 6 ≤ sizeLine; decide, fun ps hps => ?_⟩
      have u56 := (t5.trans s5).trans s6
      obtain ⟨s7, dsix⟩ := newT (K := K) (vs := [.ref a1, .ref a2, .ref a3, .ref a4, .ref a5, .ref a6]) (ds := six.map dP) hps
        (.cons (d1.same ((((t2.trans s2).trans s3).trans s4).trans u56)) (.cons (d2.same ((s3.trans s4).trans u56)) (.cons (d3.same (s4.trans u56)) (.cons (d4.same u56) (.cons (d5.same s6) (.cons d6 .nil))))))
      have sB := ((((s1.trans (t2.trans s2)).trans s3).trans s4).trans u56).trans s7
      clear s1 t2 s2 s3 s4 t5 s5 s6 u56 s7 d1 d2 d3 d4 d5 d6 c2 c5
      have do2 := do1.same sB
      have db2 := db1.same sB
      have sAB := sA.trans sB
      -- the four
      refine ⟨_, rfl, two, fun b1 h1 => ?_⟩
      obtain ⟨s1, d1⟩ := newP (K := K) (a := 0) h1 do2
      refine ⟨_, rfl, two, fun b2 h2 => ?_⟩
      obtain ⟨s2, d2⟩ := newP (K := K) (a := 1) h2 (do2.same s1)
      refine ⟨_, rfl, two, fun b3 h3 => ?_⟩
      obtain ⟨s3, d3⟩ := newP (K := K) (a := 0) h3 (db2.same (s1.trans s2))
      refine ⟨_, rfl, two, fun b4 h4 => ?_⟩
      obtain ⟨s4, d4⟩ := newP (K := K) (a := 1) h4 (db2.same ((s1.trans s2).trans s3))
      refine ⟨by show 4 ≤ sizeLine; decide, fun pf hpf => ?_⟩
      obtain ⟨s5, dfour⟩ := newT (K := K) (vs := [.ref b1, .ref b2, .ref b3, .ref b4]) (ds := four.map dP) hpf
        (.cons (d1.same ((s2.trans s3).trans s4)) (.cons (d2.same (s3.trans s4)) (.cons (d3.same s4) (.cons d4 .nil))))
      have sC := (((s1.trans s2).trans s3).trans s4).trans s5
      have dsix2 := dsix.same sC
      have do3 := do2.same sC
      have db3 := db2.same sC
      have sAC := sAB.trans sC
      have hTC := hT.ext sAC
      clear s1 s2 s3 s4 s5 d1 d2 d3 d4 sC sB sAB sA do1 db1 do2 db2 dsix
      -- the marks
      have six6 : SixR six := sixR_six
      have four6 : SixR four := sixR_four
      refine ⟨_, rfl, .ref ps, six, 2, 2, rfl, dsix2, .inl rfl, by decide, by decide, six6, by decide, hTC, fun H1 m1 x1 t1 hm1 => ?_⟩
      refine ⟨_, rfl, .ref ps, six, 2, 3, rfl, dsix2.ext (nol_R six) x1, .inl rfl, by decide, by decide, six6, by decide, t1, fun H2 m2 x2 t2 hm2 => ?_⟩
      refine ⟨Nat.zero_le _, fun pz hz => ?_⟩
      have sz := same_upd (o := .tup []) hz
      refine ⟨.ref pz, [], 2, 3, rfl, .tup (SqT.of upd_same) .nil, .inl rfl, by decide, by decide, sixR_nil, by decide, t2.ext sz, fun H3 m3 x3 t3 hm3 => ?_⟩
      refine ⟨dFs ((Lk.lynd 2 3).map (Lk.worth six)), dFs ((Lk.lynd 2 3).map (Lk.worth [])), hm2.ext (nol_dFs _) (sz.ext.trans x3), hm3, (pl_dFs _).sh (by decide), (pl_dFs _).sh (by decide), ?_⟩
      rw [eqv_dFs, hand2]
      have x13 := x2.trans (sz.ext.trans x3)
      have x03 := x1.trans x13
      refine ⟨_, rfl, .ref pf, four, 2, 1, rfl, dfour.ext (nol_R four) x03, .inl rfl, by decide, by decide, four6, by decide, t3, fun H4 m4 x4 t4 hm4 => ?_⟩
      refine ⟨_, rfl, .ref pf, four, 2, 2, rfl, dfour.ext (nol_R four) (x03.trans x4), .inl rfl, by decide, by decide, four6, by decide, t4, fun H5 m5 x5 t5 hm5 => ?_⟩
      rw [hand1] at hm1
      rw [hand3] at hm4
      rw [hand4] at hm5
      have x05 := (x03.trans x4).trans x5
      have n1 := hm1.ext (nol_dFs _) ((x13.trans x4).trans x5)
      have n4 := hm4.ext (nol_dFs _) x5
      have dsix5 := dsix2.ext (nol_R six) x05
      have dfour5 := dfour.ext (nol_R four) x05
      have do5 := do3.ext (nol_F 1) x05
      have db5 := db3.ext (nol_F (-1)) x05
      have xH5 := sAC.ext.trans x05
      clear hm1 hm2 hm3 hm4 dsix2 dfour do3 db3 x05 x03 x13 x1 x2 x3 x4 x5 t1 t2 t3 t4 sz hTC sAC
      refine ⟨by show 4 ≤ sizeLine; decide, fun Lh hLh => ?_⟩
      have sh := same_upd (o := .lst [m1, .bl false, m4, m5]) hLh
      have hd5 : DpAll K H5 [m1, .bl false, m4, m5] [dFs [0, 0, 0], .bool false, dFs [0, 0], dFs [0, 0, 1]] := .cons n1 (.cons (.bl _) (.cons n4 (.cons hm5 .nil)))
      have three : 3 ≤ sizeLine := by decide
      have oneL : 1 ≤ sizeLine := by decide
      -- what is due
      refine ⟨two, fun z1 h1 => ⟨two, fun z2 h2 => ⟨two, fun z3 h3 => ⟨three, fun zt h4 => ?_⟩⟩⟩⟩
      obtain ⟨s1, d1⟩ := newF (K := K) (x := 0) h1 e0
      obtain ⟨s2, d2⟩ := newF (K := K) (x := 0) h2 e0
      obtain ⟨s3, d3⟩ := newF (K := K) (x := 0) h3 e0
      obtain ⟨s4, dA⟩ := newT (K := K) (vs := [.ref z1, .ref z2, .ref z3]) (ds := [dF 0, dF 0, dF 0]) h4 (.cons (d1.same (s2.trans s3)) (.cons (d2.same s3) (.cons d3 .nil)))
      have sa := ((s1.trans s2).trans s3).trans s4
      refine ⟨two, fun y1 h1 => ⟨two, fun y2 h2 => ⟨two, fun yt h3 => ?_⟩⟩⟩
      obtain ⟨s1', d1'⟩ := newF (K := K) (x := 0) h1 e0
      obtain ⟨s2', d2'⟩ := newF (K := K) (x := 0) h2 e0
      obtain ⟨s3', dB⟩ := newT (K := K) (vs := [.ref y1, .ref y2]) (ds := [dF 0, dF 0]) h3 (.cons (d1'.same s2') (.cons d2' .nil))
      have sb := (s1'.trans s2').trans s3'
      refine ⟨two, fun w1 h1 => ⟨two, fun w2 h2 => ⟨two, fun w3 h3 => ⟨three, fun wt h4 => ?_⟩⟩⟩⟩
      obtain ⟨s1'', d1''⟩ := newF (K := K) (x := 0) h1 e0
      obtain ⟨s2'', d2''⟩ := newF (K := K) (x := 0) h2 e0
      obtain ⟨s3'', d3''⟩ := newF (K := K) (x := 1) h3 e1
      obtain ⟨s4'', dC⟩ := newT (K := K) (vs := [.ref w1, .ref w2, .ref w3]) (ds := [dF 0, dF 0, dF 1]) h4 (.cons (d1''.same (s2''.trans s3'')) (.cons (d2''.same s3'') (.cons d3'' .nil)))
      have sc := ((s1''.trans s2'').trans s3'').trans s4''
      refine ⟨by show 4 ≤ sizeLine; decide, fun Ld hLd => ?_⟩
      have sd := same_upd (o := .lst [.ref zt, .bl false, .ref yt, .ref wt]) hLd
      have sbc := sb.trans sc
      have hdue : DpAll K _ [.ref zt, .bl false, .ref yt, .ref wt] [dFs [0, 0, 0], .bool false, dFs [0, 0], dFs [0, 0, 1]] := .cons ((dA.same sbc).same sd) (.cons (.bl _) (.cons ((dB.same sc).same sd) (.cons (dC.same sd) .nil)))
      have sLh := (sa.trans sbc).trans sd
      have s5d := sh.trans sLh
      clear s1 s2 s3 s4 d1 d2 d3 s1' s2' s3' d1' d2' s1'' s2'' s3'' s4'' d1'' d2'' d3'' dA dB dC sa sb sc sbc
      have do6 := do5.same s5d
      have db6 := db5.same s5d
      -- the rings
      refine ⟨_, rfl, _, rfl, two, fun q1 h1 => ⟨_, rfl, two, fun q2 h2 => ⟨_, rfl, two, fun q3 h3 => ⟨three, fun qt h4 => ?_⟩⟩⟩⟩
      obtain ⟨s1, d1⟩ := newP (K := K) (a := 0) h1 do6
      obtain ⟨s2, d2⟩ := newP (K := K) (a := 1) h2 (do6.same s1)
      obtain ⟨s3, d3⟩ := newP (K := K) (a := 0) h3 (db6.same (s1.trans s2))
      obtain ⟨s4, dr1⟩ := newT (K := K) (vs := [.ref q1, .ref q2, .ref q3]) (ds := ([(0, 1), (1, 1), (0, -1)] : Row).map dP) h4 (.cons (d1.same (s2.trans s3)) (.cons (d2.same s3) (.cons d3 .nil)))
      have sa := ((s1.trans s2).trans s3).trans s4
      refine ⟨.ref qt, [(0, 1), (1, 1), (0, -1)], rfl, dr1, six_szG (fun a ha => sixR_four a (by revert ha; simp only [four, List.mem_cons, List.not_mem_nil, or_false]; rintro (rfl | rfl | rfl) <;> simp)) (by decide), fun H6 r1 s6 hr1 => ?_⟩
      rw [hand5] at hr1
      have sA := sa.trans s6
      clear s1 s2 s3 s4 d1 d2 d3 dr1 sa s6
      refine ⟨_, rfl, _, rfl, two, fun k1 h1 => ⟨oneL, fun kt h2 => ?_⟩⟩
      obtain ⟨s1, d1⟩ := newP (K := K) (a := 0) h1 (do6.same sA)
      obtain ⟨s2, d2⟩ := newT (K := K) (vs := [.ref k1]) (ds := ([(0, 1)] : Row).map dP) h2 (.cons d1 .nil)
      have sB := sA.trans (s1.trans s2)
      refine cat_data ((dsix5.same s5d).same sB) d2 (by decide) fun H7 cv s7 hcv => ?_
      rw [← List.map_append] at hcv
      refine ⟨cv, six ++ [(0, 1)], rfl, hcv, six_szG (fun a ha => (List.mem_append.mp ha).elim (sixR_six a) fun h => by rw [List.mem_singleton.mp h]; exact six_one) (by decide), fun H8 r2 s8 hr2 => ?_⟩
      obtain ⟨ar, rs, rfl, hrs, hra⟩ := hr2.R
      have hrl : rs.length = 6 := by rw [hra.length, List.length_map, hand6]
      refine ⟨ar, rs, rfl, .inr hrs, ?_⟩
      rw [hrl]
      have sC := (sB.trans s7).trans s8
      have hr1C := hr1.same ((s1.trans s2).trans (s7.trans s8))
      clear s1 s2 d1 d2 hcv s7 s8 hr2 hrs hra sB
      refine ⟨_, rfl, two, fun k1 h1 => ⟨_, rfl, two, fun k2 h2 => ⟨two, fun kt h3 => ?_⟩⟩⟩
      obtain ⟨s1, d1⟩ := newP (K := K) (a := 0) h1 (do6.same sC)
      obtain ⟨s2, d2⟩ := newP (K := K) (a := 0) h2 (db6.same (sC.trans s1))
      obtain ⟨s3, d3⟩ := newT (K := K) (vs := [.ref k1, .ref k2]) (ds := ([(0, 1), (0, -1)] : Row).map dP) h3 (.cons (d1.same s2) (.cons d2 .nil))
      refine ⟨.ref kt, [(0, 1), (0, -1)], rfl, d3, six_szG (fun a ha => sixR_four a (by revert ha; simp only [four, List.mem_cons, List.not_mem_nil, or_false]; rintro (rfl | rfl) <;> simp)) (by decide), fun H9 r3 s9 hr3 => ?_⟩
      rw [hand7] at hr3
      have t39 := ((s1.trans s2).trans s3).trans s9
      refine ⟨three, fun L2 hL2 => ?_⟩
      have sl2 := same_upd (o := .lst [r1, .int 6, r3]) hL2
      have sD := (sC.trans t39).trans sl2
      refine ⟨Lh, L2, _, _, rfl, rfl, sD _ _ (sLh _ _ upd_same), upd_same, (by decide : 4 + 3 ≤ sizeLine), fun Lh2 hLh2 => ?_⟩
      have slh2 := same_upd (o := .lst ([m1, .bl false, m4, m5] ++ [r1, .int 6, r3])) hLh2
      have sE := sD.trans slh2
      have hh : DpAll K _ ([m1, .bl false, m4, m5] ++ [r1, .int 6, r3]) ([dFs [0, 0, 0], .bool false, dFs [0, 0], dFs [0, 0, 1]] ++ [dR [(1, 1)], .int 6, dR []]) :=
        (hd5.same (s5d.trans sE)).append (.cons ((hr1C.same t39).same (sl2.trans slh2)) (.cons (.int _) (.cons (hr3.same (sl2.trans slh2)) .nil)))
      clear s1 s2 d1 d2 s3 d3 t39 sC hr1C hr3 s9
      -- the rest of what is due
      refine ⟨_, rfl, _, rfl, two, fun k1 h1 => ⟨oneL, fun kt h2 => ⟨Nat.zero_le _, fun kz h3 => ⟨three, fun L3 hL3 => ?_⟩⟩⟩⟩
      obtain ⟨s1, d1⟩ := newP (K := K) (a := 1) h1 (do6.same sE)
      obtain ⟨s2, d2⟩ := newT (K := K) (vs := [.ref k1]) (ds := ([(1, 1)] : Row).map dP) h2 (.cons d1 .nil)
      obtain ⟨s3, d3⟩ := newT (K := K) (vs := []) (ds := ([] : Row).map dP) h3 .nil
      have sl3 := same_upd (o := .lst [.ref kt, .int 6, .ref kz]) hL3
      have sF := ((s1.trans s2).trans s3).trans sl3
      refine ⟨Ld, L3, _, _, rfl, rfl, sF _ _ (sE _ _ upd_same), upd_same, (by decide : 4 + 3 ≤ sizeLine), fun Ld2 hLd2 => ?_⟩
      have sld2 := same_upd (o := .lst ([.ref zt, .bl false, .ref yt, .ref wt] ++ [.ref kt, .int 6, .ref kz])) hLd2
      have sG := sF.trans sld2
      have hd2 : DpAll K _ ([.ref zt, .bl false, .ref yt, .ref wt] ++ [.ref kt, .int 6, .ref kz]) ([dFs [0, 0, 0], .bool false, dFs [0, 0], dFs [0, 0, 1]] ++ [dR [(1, 1)], .int 6, dR []]) :=
        (hdue.same (sE.trans sG)).append (.cons (((d2.same s3).same sl3).same sld2) (.cons (.int _) (.cons ((d3.same sl3).same sld2) .nil)))
      have sAll := s5d.trans (sE.trans sG)
      refine ⟨_, rfl, _, rfl, .ref Lh2, .ref Ld2, .list ([dFs [0, 0, 0], .bool false, dFs [0, 0], dFs [0, 0, 1]] ++ [dR [(1, 1)], .int 6, dR []]), rfl, .lst (SqL.of (sG _ _ upd_same)) (hh.same sG), .lst (SqL.of upd_same) hd2, .lst _ _ (by decide) (fun dd hdd => ?_), fun H10 s10 => ⟨true, rfl, iteT ?_⟩⟩
      · simp only [List.cons_append, List.nil_append, List.mem_cons, List.not_mem_nil, or_false] at hdd
        rcases hdd with rfl | rfl | rfl | rfl | rfl | rfl | rfl
        · exact dz_dFs 1 (by decide)
        · exact .bool _ _
        · exact dz_dFs 1 (by decide)
        · exact dz_dFs 1 (by decide)
        · exact dz_R 0 (by decide)
        · exact .int _ _
        · exact dz_R 0 (by decide)
      have s5_10 := sAll.trans s10
      have t10 := t5.ext s5_10
      refine ⟨_, rfl, Nat.zero_le _, fun pe hpe => ?_⟩
      have spe := same_upd (o := .tup []) hpe
      have s5e := s5_10.trans spe
      refine ⟨.ref ps, .ref pe, six, [], 2, rfl, dsix5.same s5e, .tup (SqT.of upd_same) .nil, .inl rfl, below_six, (fun a ha => nomatch ha), sixR_six, sixR_nil, by decide, by decide, t10.ext spe, fun H11 x11 t11 => ⟨true, rfl, iteT ?_⟩⟩
      have x5_11 := s5e.ext.trans x11
      have dfour11 := dfour5.ext (nol_R four) x5_11
      obtain ⟨af, fs, e, hfs, hfa⟩ := dfour11.R
      cases e
      refine ⟨_, rfl, _, rfl, pf, fs, rfl, hfs, fun pr hpr => ?_⟩
      have spr := same_upd (o := .tup fs.reverse) hpr
      have hrev : Dp K (upd H11 pr (.tup fs.reverse)) (.ref pr) (dR four.reverse) := by
        unfold dR
        rw [List.map_reverse]
        exact .tup (SqT.of upd_same) ((hfa.same spr).reverse)
      refine ⟨.ref pf, .ref pr, four, four.reverse, 2, rfl, dfour11.same spr, hrev, .inl rfl, below_four, Lk.below_rev below_four, sixR_four, (fun a ha => sixR_four a (List.mem_reverse.mp ha)), by decide, by decide, t11.ext spr, fun H12 x12 t12 => ?_⟩
      exact q _ (xH5.trans (x5_11.trans (spr.ext.trans x12))) t12
end
end L2

set_option Elab.async false
set_option linter.all false
set_option maxRecDepth 100000
set_option maxHeartbeats 16000000
namespace L2
open PySem PySem.Spec PyProof.Rows
open LamX (ExtN Tabs TabB TabS lam_make2 CodeO)
open Lk (Six SixR Wt Below)
/-! ## any urn -/
theorem tabs_ur {T : List (Addr × Str)} {u : Addr} {H H' : Hp} {m : Nat} (h : Tabs T H) (e : Ur u H H') (hu : UrnAt H u m) : Tabs T H' := fun p hp => by
  obtain ⟨a, b, c, hu, _⟩ := hu
  obtain ⟨ps, h1, h2, h3⟩ := h p hp
  refine ⟨ps, e _ _ (ne_of h1 hu (by intro z; cases z)) h1, h2, fun pos cv hcv => ?_⟩
  obtain ⟨c, e1, e2⟩ := h3 pos cv hcv
  exact ⟨c, e1, e _ _ (ne_of e2 hu (by unfold CodeO; intro z; cases z)) e2⟩
theorem cutR {K : PySem.W.Frag} {H : Hp} {Q : VK} {v : V} {r : Row} {lo hi : Option Int} (hv : Dp K H v (dR r)) (q : ∀ r' : Row, (∀ a ∈ r', a ∈ r) → r'.length ≤ r.length → Ret K H Q (dR r')) : rSlA K v lo hi H Q := by
  refine cut_data hv ?_
  rw [← List.map_drop, ← List.map_take]
  refine q _ (fun a ha => List.mem_of_mem_drop (List.mem_of_mem_take ha)) ?_
  rw [List.length_take, List.length_drop]
  omega
theorem Ur.ofSame {u : Addr} {H H' : Hp} (e : Same H H') : Ur u H H' := Same.ur e
section
variable {P : Program} {w : World} {K : PySem.W.Frag} {mg : Str → Option Value} {base : Heap}
def spRight (TT : List (Addr × Str)) (K : PySem.W.Frag) : Sp := fun vs H Q _ => ∃ u m, vs = [.ref u] ∧ UrnAt H u m ∧ m ≤ 100 ∧ Tabs TT H ∧ ∀ H', Q (.bl true) H'
abbrev sRight : Stmt := topS 49
abbrev nRight : List Str := ["_law_urn", "_law_wide_so", "_law_way_so", "_law_flows_so", "_law_other_so", "_law_first_so", "_law_then_so", "_law_go"]
theorem scRight : FnScope nRight ["_law_urn"] (defScope sRight) := ⟨rfl, rfl, rfl, by decide +kernel, rfl, by decide +kernel, by decide +kernel⟩
theorem ok_right {TT : List (Addr × Str)} (D : Df K mg "_law_right" sRight ["_law_urn"]) (T : Tx K mg) (GT : Ok' P w K mg base "_law_take" ["_law_urn", "_law_low_so"] 8 (spTake K)) (GM : Ok' P w K mg base "_law_much" ["_law_urn"] 8 (spMuch K)) (GF : Ok' P w K mg base "_law_flows" ["_law_urn", "_law_wide_so", "_law_most_so"] 8 (spFlows K))
    (GN : Ok' P w K mg base "_law_near" ["_law_urn", "_law_flows_so", "_law_wide_so"] 8 (spNear K)) (GU : Ok' P w K mg base "_law_undone" ["_law_flows_so"] 8 (spUndone K)) (GH : Ok' P w K mg base "_law_half_right" ["_law_flows_so", "_law_other_so", "_law_wide_so"] 8 (spHalf TT K)) : Ok' P w K mg base "_law_right" ["_law_urn"] 9 (spRight TT K) := by
  refine D.ok scRight (fun vs H Q E h => ?_) (fun f cdv A outer s H vs Q E hr h => ?_)
  · obtain ⟨u, m, rfl, _⟩ := h; rfl
  · obtain ⟨u, m, rfl, hu, hm, hT, q⟩ := h
    refine' ⟨_, pss_cons ?s0 (pss_cons ?s1 (pss_cons ?s2 (pss_cons ?s3 (pss_one ?s4)))), ?fin⟩
    case s0 => exact ps_asg (pe_tup (pa_cons (pe_op op_add pe_int (pe_cf GT hr (pa_cons (pv 0) (pa_cons pe_int pa_nil)))) (pa_cons (pe_cf GT hr (pa_cons (pv 0) (pa_cons pe_int pa_nil))) pa_nil))) (pg_tup rfl (pgs_cons (pg_name (i := 1) scRight.nd rfl (Or.inr rfl)) (pgs_cons (pg_name (i := 2) scRight.nd rfl (Or.inl rfl)) pgs_nil)))
    case s1 => exact ps_set (i := 3) scRight.nd rfl (.inl rfl) (pe_cf GF hr (pa_cons (pv 0) (pa_cons (pv 1) (pa_cons pe_int pa_nil))))
    case s2 => exact ps_set (i := 4) scRight.nd rfl (.inl rfl) (pe_cf GN hr (pa_cons (pv 0) (pa_cons (pv 3) (pa_cons (pv 1) pa_nil))))
    case s3 =>
      refine' ps_if ?t0 ?a0 (pss_one (ps_if ?t1 ?a1 (pss_one (ps_if ?t2 ?a2 pss_nil))))
      case t0 => exact pt_cmpR op_eq (pv 2) pe_int (nomark _)
      case a0 => exact pss_one (ps_set (i := 4) scRight.nd rfl (.inl rfl) (pe_cf GF hr (pa_cons (pv 0) (pa_cons (pv 1) (pa_cons pe_int pa_nil)))))
      case t1 => exact PW.pt (pw_and (pt_cmpR op_eq (pv 2) pe_int (nomark _)) (pw_and1 (pt_cmpR op_gt (pe_callB call_len_seq (by rfl) T.len PySem.boot_len (pa_cons (pv 3) pa_nil)) pe_int (nomark _))))
      case a1 => exact pss_one (ps_set (i := 4) scRight.nd rfl (.inl rfl) (pe_op op_catA (pe_slice sl_tupA (pv 3) po_none (po_some (pe_un un_neg pe_int))) (pe_revT (pe_slice sl_tupA (pv 3) (po_some (pe_un un_neg pe_int)) po_none))))
      case t2 => exact pt_cmpR op_eq (pv 2) pe_int (nomark _)
      case a2 =>
        refine' pss_cons ?b0 (pss_one ?b1)
        case b0 =>
          refine' ps_asg ?c0 ?c1
          case c0 =>
            refine' pe_lc (own := [("_law_go", 7)]) (g := gName 7) (tt := tYes) rfl scRight.nd ?d0 (blkOk_by (N := nRight) (sc := defScope sRight) (by decide +kernel)) (fun _ _ _ _ _ => pg_name (i := 7) scRight.nd rfl (Or.inl rfl)) (fun _ _ _ _ _ => pts_nil) ?d1
            case d0 => exact (pi_range1 (by rfl) T.range (pa_cons pe_int pa_nil))
            case d1 => exact (fun _ _ _ _ _ => pe_tup (pa_cons (pe_tup (pa_cons (pe_cf GT hr (pa_cons (pv 0) (pa_cons (pv 1) pa_nil))) (pa_cons (pe_cf GM hr (pa_cons (pv 0) pa_nil)) pa_nil))) (pa_cons (pe_tup (pa_cons (pe_cf GT hr (pa_cons (pv 0) (pa_cons (pv 1) pa_nil))) (pa_cons (pe_cf GM hr (pa_cons (pv 0) pa_nil)) pa_nil))) pa_nil)))
          case c1 => exact pg_unl rfl (pgs_cons (pg_name (i := 5) scRight.nd rfl (Or.inl rfl)) (pgs_cons (pg_name (i := 6) scRight.nd rfl (Or.inl rfl)) pgs_nil))
        case b1 => exact ps_par (i := 3) (j := 4) (by rfl) scRight.nd rfl rfl (by decide) rfl rfl (pa_cons (pe_op op_catA (pe_op op_catA (pv 5) (pv 6)) (pe_cf GU hr (pa_cons (pv 5) pa_nil))) (pa_cons (pv 6) pa_nil)) (by rfl)
    case s4 => exact ps_ret (pe_cf GH hr (pa_cons (pv 3) (pa_cons (pv 4) (pa_cons (pv 1) pa_nil))))
    case fin =>
      have two : 2 ≤ sizeLine := by decide
      refine ⟨_, rfl, u, 2, m, rfl, by decide, by decide, hu, by omega, fun d1 hd1 H1 v1 ur1 un1 hv1 => ?_⟩
      cases hv1
      refine ⟨_, _, rfl, rfl, ?_⟩
      refine ⟨_, rfl, u, 5, m + 1, rfl, by decide, by decide, un1, by omega, fun d2 hd2 H2 v2 ur2 un2 hv2 => ?_⟩
      cases hv2
      refine ⟨two, fun tp htp => ?_⟩
      have un3 := un2.put (D := tp) (o := .tup [.int (2 + (d1 : Int)), .int (d2 : Nat)]) (un2.ne htp)
      have T3 := (tabs_ur (tabs_ur hT ur1 hu) ur2 un1).ext (same_upd (o := .tup [.int (2 + (d1 : Int)), .int (d2 : Nat)]) htp)
      refine ⟨tp, _, rfl, SqT.of upd_same, rfl, _, _, rfl, _, _, rfl, rfl, ?_⟩
      obtain ⟨wide, ew⟩ : ∃ wide : Nat, (2 : Int) + (d1 : Int) = (wide : Int) := ⟨2 + d1, by omega⟩
      dsimp only at un3 T3 ⊢
      rw [ew] at un3 T3 ⊢
      have hw : wide = 2 ∨ wide = 3 := by omega
      obtain ⟨H3, eH3⟩ : ∃ H3, H3 = upd H2 tp (.tup [.int (wide : Int), .int (d2 : Int)]) := ⟨_, rfl⟩
      rw [← eH3] at un3 T3 ⊢
      clear eH3
      refine ⟨_, rfl, _, rfl, u, wide, 5, m + 2, rfl, un3, by omega, by omega, by decide, by omega, fun r hr H4 v4 ur4 un4 hv4 => ?_⟩
      have T4 := tabs_ur T3 ur4 un3
      refine ⟨_, rfl, _, rfl, _, rfl, u, v4, wide, 5, m + 2 + 30, r, rfl, un4, hv4, hr, by decide, by omega, by omega, by omega, fun o ho H5 v5 ur5 un5 hv5 => ?_⟩
      have T5 := tabs_ur T4 ur5 un4
      have hv4' := hv4.tk (nol_R r) (ur5.tk un4)
      have fin : ∀ (Hc : Hp) (a b : Row) (va vb : V) (c5 c6 c7 : Option V), Dp K Hc va (dR a) → Dp K Hc vb (dR b) → Dr2 wide 20 a → Dr2 wide 20 b → Tabs TT Hc →
          tRet (tCall (spHalf TT K) [] E0 (tCons (tVar 3) (tCons (tVar 4) (tCons (tVar 1) tNil)))) { nx := fun _ H' => Q .non H', rt := Q } [some (.ref u), some (.int (wide : Int)), some (.int (d2 : Int)), some va, some vb, c5, c6, c7] Hc := by
        intro Hc a b va vb c5 c6 c7 ha hb da db tc
        exact ⟨_, rfl, _, rfl, _, rfl, va, vb, a, b, wide, rfl, ha, hb, hw, da.2.1, db.2.1, da.2.2, db.2.2, da.1, db.1, tc, fun H' _ _ => q H'⟩
      have hr20 : Dr2 wide 20 r := hr.two (by decide)
      have ho20 : Dr2 wide 20 o := ⟨by have := ho.1; omega, ho.2⟩
      refine ⟨_, rfl, rfl, _, rfl, ?_⟩
      by_cases w0 : (d2 : Int) = 0
      · refine ifT (dVeq w0) ?_
        refine ⟨_, rfl, _, rfl, u, wide, 3, m + 2 + 30 + 4, rfl, un5, by omega, by omega, by decide, by omega, fun r2 hr2 H6 v6 ur6 un6 hv6 => ?_⟩
        exact fin H6 r r2 v4 v6 _ _ _ (hv4'.tk (nol_R r) (ur6.tk un5)) hv6 hr20 (hr2.two (by decide)) (tabs_ur T5 ur6 un5)
      refine ifF (dVne w0) ?_
      refine ⟨_, rfl, rfl, _, rfl, ?_⟩
      by_cases w1 : (d2 : Int) = 1
      · refine ifT (dVeq w1) ?_
        obtain ⟨af, fs, rfl, hfs, hfa⟩ := hv4'.R
        refine ⟨_, rfl, af, fs, rfl, .inr hfs, _, _, rfl, rfl, _, rfl, ?_⟩
        by_cases hl : (1 : Int) < ((fs.length : Nat) : Int)
        · refine ifT (decide_eq_true hl) ?_
          refine ⟨_, rfl, ?_⟩
          dsimp only [tNoPart]
          refine ⟨_, rfl, _, rfl, cutR hv4' fun r1 hr1 hl1 H6 v6 s6 h6 => ?_⟩
          refine ⟨_, rfl, _, rfl, _, rfl, ?_⟩
          dsimp only [tNoPart]
          refine cutR (hv4'.same s6) fun r2 hr2 hl2 H7 v7 s7 h7 => ?_
          obtain ⟨a7, xs7, rfl, hs7, ha7⟩ := h7.R
          refine ⟨a7, xs7, rfl, hs7, fun p hp => ?_⟩
          have sp := same_upd (o := .tup xs7.reverse) hp
          have hrev : Dp K (upd H7 p (.tup xs7.reverse)) (.ref p) (.tuple (r2.reverse.map dP)) := by
            rw [List.map_reverse]
            exact .tup (SqT.of upd_same) ((ha7.same sp).reverse)
          have hrl := hr.1
          refine cat_data ((h6.same s7).same sp) hrev (by rw [List.length_map, List.length_map, List.length_reverse]; omega) fun H8 v8 s8 h8 => ?_
          rw [← List.map_append] at h8
          have s58 := ((s6.trans s7).trans sp).trans s8
          refine fin H8 r (r1 ++ r2.reverse) (.ref af) v8 _ _ _ (hv4'.same s58) h8 hr20 (Dr2.parts (r := r) (by rw [List.length_append, List.length_reverse]; omega) fun a ha => ?_) (T5.ext s58)
          rcases List.mem_append.mp ha with ha | ha
          · exact hr.at a (hr1 a ha)
          · exact hr.at a (hr2 a (List.mem_reverse.mp ha))
        · refine ifF (decide_eq_false hl) ?_
          refine ⟨_, rfl, rfl, _, rfl, ?_⟩
          refine ifF (dVne (by omega)) ?_
          exact fin H5 r o (.ref af) v5 _ _ _ hv4' hv5 hr20 ho20 T5
      refine ifF (dVne w1) ?_
      refine ifF rfl ?_
      refine ⟨_, rfl, rfl, _, rfl, ?_⟩
      by_cases w2 : (d2 : Int) = 2
      · refine ifT (dVeq w2) ?_
        refine ⟨2, rfl, by decide, by decide, fun D hD => ?_⟩
        have hDu : D ≠ u := un5.ne hD
        refine lc_it (walk_range (n := 2)) (fun i H' => ∃ ys, ∃ rs : List Row, H' D = some (.lst ys) ∧ Ur u H5 H' ∧ UrnAt H' u (m + 36 + 4 * i) ∧ DpAll K H' ys (rs.map dR) ∧ rs.length = i ∧ (∀ r ∈ rs, r.length = 2 ∧ ∀ a ∈ r, (0 ≤ a.1 ∧ a.1 < (wide : Int)) ∧ Six a.2) ∧ i ≤ 2)
          ⟨[], [], upd_same, ?_, (un5.put hDu).mono (by omega), .nil, rfl, (fun r hr => nomatch hr), Nat.zero_le _⟩ (fun _ _ _ _ => True.intro) ?_ ?_
        · intro b o nb hb
          rw [upd_ne (ne_of_none hb hD)]
          exact hb
        · rintro i x H6 H7 hi ⟨ys, rs, h1, h2, h3, h4, h5, h6, h7⟩ ⟨rfl, rfl⟩
          have hi : i < 2 := by simpa using hi
          refine ⟨rfl, _, rfl, _, rfl, u, _, _, rfl, by omega, by omega, h3, by omega, fun p1 hp1 H8 w8 ur8 un8 hv8 => ?_⟩
          cases hv8
          refine ⟨_, rfl, u, _, rfl, un8, by omega, fun x1 hx1 H9 w9 ur9 un9 hv9 => ?_⟩
          refine ⟨two, fun t1 ht1 => ?_⟩
          obtain ⟨s9, e9⟩ := newP (K := K) (a := (p1 : Int)) ht1 hv9
          have un10 := un9.put (o := .tup [.int (p1 : Int), w9]) (un9.ne ht1)
          refine ⟨_, rfl, _, rfl, u, _, _, rfl, by omega, by omega, un10, by omega, fun p2 hp2 H11 w11 ur11 un11 hv11 => ?_⟩
          cases hv11
          refine ⟨_, rfl, u, _, rfl, un11, by omega, fun x2 hx2 H12 w12 ur12 un12 hv12 => ?_⟩
          refine ⟨two, fun t2 ht2 => ?_⟩
          obtain ⟨s12, e12⟩ := newP (K := K) (a := (p2 : Int)) ht2 hv12
          have un13 := un12.put (o := .tup [.int (p2 : Int), w12]) (un12.ne ht2)
          refine ⟨two, fun t3 ht3 => ?_⟩
          have e9' := ((e9.tk (nol_P _) (ur11.tk un10)).tk (nol_P _) (ur12.tk un11)).same s12
          obtain ⟨s13, e13⟩ := newT (K := K) (vs := [.ref t1, .ref t2]) (ds := ([((p1 : Int), x1), ((p2 : Int), x2)] : Row).map dP) ht3 (.cons e9' (.cons e12 .nil))
          have un14 := un13.put (o := .tup [.ref t1, .ref t2]) (un13.ne ht3)
          have urA := ((ur8.trans ur9).trans (Same.ur s9)).trans ((ur11.trans ur12).trans (Same.ur (s12.trans s13)))
          have hD14 := urA D _ hDu h1
          have hyl : ys.length ≤ 2 := by rw [h4.length, List.length_map]; omega
          have tk1 : Tk K H7 _ := fun c cs hc => (s12.trans s13).tk _ _ (ur12.tk (K := K) un11 _ _ (ur11.tk (K := K) un10 _ _ (s9.tk _ _ (ur9.tk (K := K) un8 _ _ (ur8.tk (K := K) h3 _ _ hc)))))
          have nolr : ∀ d ∈ rs.map dR, NoL d := fun d hd => by obtain ⟨r', _, rfl⟩ := List.mem_map.mp hd; exact nol_R r'
          refine ⟨ys, hD14, small1000 (by omega), ys ++ [.ref t3], rs ++ [[((p1 : Int), x1), ((p2 : Int), x2)]], upd_same, ?_, (un14.put hDu).mono (by omega), ?_, by rw [List.length_append, h5]; rfl, fun r' hr' => ?_, hi⟩
          · intro b o nb hb
            rw [upd_ne (ne_of_none hb hD)]
            exact urA b o nb (h2 b o nb hb)
          · rw [List.map_append]
            refine ((h4.tk nolr tk1).snoc e13).tk ?_ (tk_updL hD14)
            intro d hd
            rcases List.mem_append.mp hd with hd | hd
            · exact nolr d hd
            · rw [List.mem_singleton.mp hd]; exact nol_R _
          · rcases List.mem_append.mp hr' with hr' | hr'
            · exact h6 r' hr'
            · rw [List.mem_singleton] at hr'
              subst hr'
              refine ⟨rfl, fun a ha => ?_⟩
              simp only [List.mem_cons, List.not_mem_nil, or_false] at ha
              rcases ha with rfl | rfl
              · exact ⟨⟨by show (0 : Int) ≤ (p1 : Int); omega, hp1⟩, hx1.mono (by decide)⟩
              · exact ⟨⟨by show (0 : Int) ≤ (p2 : Int); omega, hp2⟩, hx2.mono (by decide)⟩
        · rintro H6 ⟨ys, rs, h1, h2, h3, h4, h5, h6, h7⟩
          have h5 : rs.length = 2 := h5
          match rs, h5, h4, h6 with
          | [r1, r2], _, h4, h6 =>
          cases h4 with
          | @cons y1 ys1 _ _ k1 k2 =>
          cases k2 with
          | @cons y2 ys2 _ _ k3 k4 =>
          cases k4
          obtain ⟨l1, m1⟩ := h6 r1 (by simp)
          obtain ⟨l2, m2⟩ := h6 r2 (by simp)
          refine ⟨D, _, rfl, SqL.of h1, rfl, _, _, rfl, _, _, rfl, rfl, ?_⟩
          refine ⟨_, rfl, _, rfl, cat_data k1 k3 (by rw [List.length_map, List.length_map]; omega) fun H7 v7 s7 h7 => ?_⟩
          rw [← List.map_append] at h7
          refine ⟨_, rfl, y1, r1, rfl, k1.same s7, by omega, fun H8 v8 s8 h8 => ?_⟩
          have hil := Lk.inv_len r1
          refine cat_data (h7.same s8) h8 (by rw [List.length_map, List.length_map, List.length_append]; omega) fun H9 v9 s9 h9 => ?_
          rw [← List.map_append] at h9
          have s69 := (s7.trans s8).trans s9
          have b1 : Below wide r1 := fun a ha => (m1 a ha).1
          refine ⟨_, rfl, _, _, rfl, ?_⟩
          refine fin H9 ((r1 ++ r2) ++ Lk.inv r1) r2 v9 y2 _ _ _ h9 (k3.same s69) (Dr2.parts (r := r) (by simp only [List.length_append]; omega) fun a ha => ?_) (Dr2.parts (r := r) (by omega) m2) ((tabs_ur T5 h2 un5).ext s69)
          rcases List.mem_append.mp ha with ha | ha
          · rcases List.mem_append.mp ha with ha | ha
            · exact m1 a ha
            · exact m2 a ha
          · refine ⟨Lk.below_inv b1 a ha, ?_⟩
            unfold Lk.inv at ha
            obtain ⟨a', ha', rfl⟩ := List.mem_map.mp (List.mem_reverse.mp ha)
            exact (m1 a' ha').2.neg
      refine ifF (dVne w2) ?_
      exact fin H5 r o v4 v5 _ _ _ hv4' hv5 hr20 ho20 T5
abbrev sLaw : Stmt := topS 50
theorem scLaw : FnScope ["_law_script"] ["_law_script"] (defScope sLaw) := ⟨rfl, rfl, rfl, by decide +kernel, rfl, by decide +kernel, by decide +kernel⟩
def spLaw (TT : List (Addr × Str)) (K : PySem.W.Frag) : Sp := fun vs H Q _ => ∃ a, ∃ ns : List Int, vs = [.ref a] ∧ SqL K H a (ns.map V.int) ∧ ns.length ≤ 63 ∧ Tabs TT H ∧ ∀ H', Q (.bl true) H'
theorem fn_law {TT : List (Addr × Str)} {f : Addr} {fd : FuncData} (F : Fun K "law" "law" sLaw f fd) (T : Tx K mg) (GH : Ok' P w K mg base "_law_by_hand_right" [] 9 (spHand TT K)) (GC : Ok' P w K mg base "_law_cells" ["_law_script", "_law_roof_so"] 9 (spCells K)) (GB : Ok' P w K mg base "_law_box" ["_law_script", "_law_k"] 9 (spBox K)) (GR : Ok' P w K mg base "_law_right" ["_law_urn"] 9 (spRight TT K)) :
    FnOk P w K mg base CX0 10 f fd ["_law_script"] (spLaw TT K) := by
  refine F.ok scLaw (fun vs H Q E h => ?_) (fun cdv A outer s H vs Q E hr h => ?_)
  · obtain ⟨a, ns, rfl, _⟩ := h; rfl
  · obtain ⟨a, ns, rfl, hs, hn, hT, q⟩ := h
    refine ⟨_, pss_cons (ps_if (pt_not (pt_val (pe_cf0 GH hr))) (pss_one (ps_ret pe_bl)) pss_nil)
      (pss_one (ps_ret (pe_cf GR hr (pa_cons (pe_cf GB hr (pa_cons (pe_cf GC hr (pa_cons (pv 0) (pa_cons pe_int pa_nil))) (pa_cons pe_int pa_nil))) pa_nil)))), ?_⟩
    refine ⟨rfl, hT, fun H1 x1 t1 => ⟨true, rfl, ifF rfl ?_⟩⟩
    refine ⟨_, rfl, a, ns, rfl, extN_seq x1 hs, hn, fun H2 l n s2 hl => ?_⟩
    refine ⟨l, n, rfl, SqL.of hl, fun H3 u s3 hu0 hu => ?_⟩
    exact ⟨u, 0, rfl, hu, by decide, (t1.ext s2).ext s3, q⟩
end
end L2

set_option Elab.async false
set_option linter.all false
set_option maxRecDepth 100000
set_option maxHeartbeats 16000000
namespace L2
open PySem PySem.Spec PyProof.Rows
open LamX (ExtN Tabs TabB TabS lam_make2 CodeO LawAtS)
section
variable {P : Program} {w : World} {K : PySem.W.Frag} {mg : Str → Option Value} {base : Heap}
/-! ## the module as it stands -/
/-- a def of the module, by its name -/
theorem df_mk {x : Str} {st : Stmt} {ps : List Str} {h : Heap} {f : Addr} {oc : Value} {od an : Option Addr} {sl : Array (Option Value)} {kV dc pm cd ct : Value} (X : K.In h) (G : h.Ns mainGlobals mg) (a : PySem.W.nsIn K mainGlobals x = some (some (.ref f)))
    (l : K.lookup f = some ⟨oc, od, .func (PySem.W.fnOf x x (defArgs st) (defBody st) (defScope st) .none kV dc pm an cd ct), sl⟩) (c : PySem.W.codeIn K cd x = true) (k : PySem.W.keepIn K (.ref f) = true)
    (hb : ∀ (kV doc pm : Value) (an : Option Addr) (cdv ct : Value) (us : List Value), us.length = ps.length → bindArgs (PySem.W.fnOf x x (defArgs st) (defBody st) (defScope st) .none kV doc pm an cdv ct) ⟨us, []⟩ = pure (ps.zip us)) : Df K mg x st ps :=
  ⟨⟨f, _, fun_mk (st := st) l c k, PySem.W.mg_of X G a, (fun_mk (st := st) l c k).binds hb⟩⟩
theorem const_tup {a : Addr} {od : Option Addr} {sl : Array (Option Value)} {i j : Int} {t u : Tok} {n : Nat} (l : K.lookup a = some ⟨.type "tuple", od, .seq #[.int i t, .int j u] n, sl⟩) : ∀ H, SqT K H a [.int i, .int j] := fun _ =>
  .inr ⟨_, #[.int i t, .int j u], n, l, rfl, rfl, by show 2 ≤ sizeLine; decide, .cons ⟨t, rfl⟩ (.cons ⟨u, rfl⟩ .nil)⟩
end
theorem all_mk {l : PySem.W.OpenLaw} {w : World} {K : PySem.W.Frag} {h : Heap} {mg : Str → Option Value} {fa : Addr} (Pt : Addr) (X : K.In h) (G : h.Ns mainGlobals mg) (hfa : mg "law" = some (.ref fa)) (hP : h.get? Pt = some { cls := .none, data := .fields #[] })
    {f0 f1 f2 f3 f4 f5 f6 f7 f8 f9 f10 f11 f12 f13 f14 f15 f16 f17 f18 f19 f20 f21 f22 f23 f24 f25 f26 f27 f28 f29 f30 f31 f32 f33 f34 f35 fL cL aN aS aO aP : Addr} {od0 an0 od1 an1 od2 an2 od3 an3 od4 an4 od5 an5 od6 an6 od7 an7 od8 an8 od9 an9 od10 an10 od11 an11 od12 an12 od13 an13 od14 an14 od15 an15 od16 an16 od17 an17 od18 an18 od19 an19 od20 an20 od21 an21 od22 an22 od23 an23 od24 an24 od25 an25 od26 an26 od27 an27 od28 an28 od29 an29 od30 an30 od31 an31 od32 an32 od33 an33 od34 an34 od35 an35 odL anL odN odS odO odP : Option Addr} {sl0 sl1 sl2 sl3 sl4 sl5 sl6 sl7 sl8 sl9 sl10 sl11 sl12 sl13 sl14 sl15 sl16 sl17 sl18 sl19 sl20 sl21 sl22 sl23 sl24 sl25 sl26 sl27 sl28 sl29 sl30 sl31 sl32 sl33 sl34 sl35 slL slN slS slO slP : Array (Option Value)} {oc0 kV0 dc0 pm0 cd0 ct0 oc1 kV1 dc1 pm1 cd1 ct1 oc2 kV2 dc2 pm2 cd2 ct2 oc3 kV3 dc3 pm3 cd3 ct3 oc4 kV4 dc4 pm4 cd4 ct4 oc5 kV5 dc5 pm5 cd5 ct5 oc6 kV6 dc6 pm6 cd6 ct6 oc7 kV7 dc7 pm7 cd7 ct7 oc8 kV8 dc8 pm8 cd8 ct8 oc9 kV9 dc9 pm9 cd9 ct9 oc10 kV10 dc10 pm10 cd10 ct10 oc11 kV11 dc11 pm11 cd11 ct11 oc12 kV12 dc12 pm12 cd12 ct12 oc13 kV13 dc13 pm13 cd13 ct13 oc14 kV14 dc14 pm14 cd14 ct14 oc15 kV15 dc15 pm15 cd15 ct15 oc16 kV16 dc16 pm16 cd16 ct16 oc17 kV17 dc17 pm17 cd17 ct17 oc18 kV18 dc18 pm18 cd18 ct18 oc19 kV19 dc19 pm19 cd19 ct19 oc20 kV20 dc20 pm20 cd20 ct20 oc21 kV21 dc21 pm21 cd21 ct21 oc22 kV22 dc22 pm22 cd22 ct22 oc23 kV23 dc23 pm23 cd23 ct23 oc24 kV24 dc24 pm24 cd24 ct24 oc25 kV25 dc25 pm25 cd25 ct25 oc26 kV26 dc26 pm26 cd26 ct26 oc27 kV27 dc27 pm27 cd27 ct27 oc28 kV28 dc28 pm28 cd28 ct28 oc29 kV29 dc29 pm29 cd29 ct29 oc30 kV30 dc30 pm30 cd30 ct30 oc31 kV31 dc31 pm31 cd31 ct31 oc32 kV32 dc32 pm32 cd32 ct32 oc33 kV33 dc33 pm33 cd33 ct33 oc34 kV34 dc34 pm34 cd34 ct34 oc35 kV35 dc35 pm35 cd35 ct35 ocL kVL dcL pmL ctL : Value} {tN uN tS uS tO uO tP uP : Tok} {nN nS nO nP : Nat}
    (a0 : PySem.W.nsIn K mainGlobals "tuple_of" = some (some (.ref f0))) (l0 : K.lookup f0 = some ⟨oc0, od0, .func (PySem.W.fnOf "tuple_of" "tuple_of" (defArgs sTuple) (defBody sTuple) (defScope sTuple) .none kV0 dc0 pm0 an0 cd0 ct0), sl0⟩) (c0 : PySem.W.codeIn K cd0 "tuple_of" = true) (k0 : PySem.W.keepIn K (.ref f0) = true)
    (a1 : PySem.W.nsIn K mainGlobals "fraction" = some (some (.ref f1))) (l1 : K.lookup f1 = some ⟨oc1, od1, .func (PySem.W.fnOf "fraction" "fraction" (defArgs sFraction) (defBody sFraction) (defScope sFraction) .none kV1 dc1 pm1 an1 cd1 ct1), sl1⟩) (c1 : PySem.W.codeIn K cd1 "fraction" = true) (k1 : PySem.W.keepIn K (.ref f1) = true)
    (a2 : PySem.W.nsIn K mainGlobals "whole" = some (some (.ref f2))) (l2 : K.lookup f2 = some ⟨oc2, od2, .func (PySem.W.fnOf "whole" "whole" (defArgs sWhole) (defBody sWhole) (defScope sWhole) .none kV2 dc2 pm2 an2 cd2 ct2), sl2⟩) (c2 : PySem.W.codeIn K cd2 "whole" = true) (k2 : PySem.W.keepIn K (.ref f2) = true)
    (a3 : PySem.W.nsIn K mainGlobals "plus" = some (some (.ref f3))) (l3 : K.lookup f3 = some ⟨oc3, od3, .func (PySem.W.fnOf "plus" "plus" (defArgs sPlus) (defBody sPlus) (defScope sPlus) .none kV3 dc3 pm3 an3 cd3 ct3), sl3⟩) (c3 : PySem.W.codeIn K cd3 "plus" = true) (k3 : PySem.W.keepIn K (.ref f3) = true)
    (a4 : PySem.W.nsIn K mainGlobals "times" = some (some (.ref f4))) (l4 : K.lookup f4 = some ⟨oc4, od4, .func (PySem.W.fnOf "times" "times" (defArgs sTimes) (defBody sTimes) (defScope sTimes) .none kV4 dc4 pm4 an4 cd4 ct4), sl4⟩) (c4 : PySem.W.codeIn K cd4 "times" = true) (k4 : PySem.W.keepIn K (.ref f4) = true)
    (a5 : PySem.W.nsIn K mainGlobals "over" = some (some (.ref f5))) (l5 : K.lookup f5 = some ⟨oc5, od5, .func (PySem.W.fnOf "over" "over" (defArgs sOver) (defBody sOver) (defScope sOver) .none kV5 dc5 pm5 an5 cd5 ct5), sl5⟩) (c5 : PySem.W.codeIn K cd5 "over" = true) (k5 : PySem.W.keepIn K (.ref f5) = true)
    (a6 : PySem.W.nsIn K mainGlobals "row_turned" = some (some (.ref f6))) (l6 : K.lookup f6 = some ⟨oc6, od6, .func (PySem.W.fnOf "row_turned" "row_turned" (defArgs sTurned) (defBody sTurned) (defScope sTurned) .none kV6 dc6 pm6 an6 cd6 ct6), sl6⟩) (c6 : PySem.W.codeIn K cd6 "row_turned" = true) (k6 : PySem.W.keepIn K (.ref f6) = true)
    (a7 : PySem.W.nsIn K mainGlobals "row_joined" = some (some (.ref f7))) (l7 : K.lookup f7 = some ⟨oc7, od7, .func (PySem.W.fnOf "row_joined" "row_joined" (defArgs sJoined) (defBody sJoined) (defScope sJoined) .none kV7 dc7 pm7 an7 cd7 ct7), sl7⟩) (c7 : PySem.W.codeIn K cd7 "row_joined" = true) (k7 : PySem.W.keepIn K (.ref f7) = true)
    (a8 : PySem.W.nsIn K mainGlobals "go_together" = some (some (.ref f8))) (l8 : K.lookup f8 = some ⟨oc8, od8, .func (PySem.W.fnOf "go_together" "go_together" (defArgs sGo) (defBody sGo) (defScope sGo) .none kV8 dc8 pm8 an8 cd8 ct8), sl8⟩) (c8 : PySem.W.codeIn K cd8 "go_together" = true) (k8 : PySem.W.keepIn K (.ref f8) = true)
    (a9 : PySem.W.nsIn K mainGlobals "place_to_meet" = some (some (.ref f9))) (l9 : K.lookup f9 = some ⟨oc9, od9, .func (PySem.W.fnOf "place_to_meet" "place_to_meet" (defArgs sPlace) (defBody sPlace) (defScope sPlace) .none kV9 dc9 pm9 an9 cd9 ct9), sl9⟩) (c9 : PySem.W.codeIn K cd9 "place_to_meet" = true) (k9 : PySem.W.keepIn K (.ref f9) = true)
    (a10 : PySem.W.nsIn K mainGlobals "shortened" = some (some (.ref f10))) (l10 : K.lookup f10 = some ⟨oc10, od10, .func (PySem.W.fnOf "shortened" "shortened" (defArgs sShort) (defBody sShort) (defScope sShort) .none kV10 dc10 pm10 an10 cd10 ct10), sl10⟩) (c10 : PySem.W.codeIn K cd10 "shortened" = true) (k10 : PySem.W.keepIn K (.ref f10) = true)
    (a11 : PySem.W.nsIn K mainGlobals "normal_row" = some (some (.ref f11))) (l11 : K.lookup f11 = some ⟨oc11, od11, .func (PySem.W.fnOf "normal_row" "normal_row" (defArgs sNormalRow) (defBody sNormalRow) (defScope sNormalRow) .none kV11 dc11 pm11 an11 cd11 ct11), sl11⟩) (c11 : PySem.W.codeIn K cd11 "normal_row" = true) (k11 : PySem.W.keepIn K (.ref f11) = true)
    (a12 : PySem.W.nsIn K mainGlobals "is_same" = some (some (.ref f12))) (l12 : K.lookup f12 = some ⟨oc12, od12, .func (PySem.W.fnOf "is_same" "is_same" (defArgs sSame) (defBody sSame) (defScope sSame) .none kV12 dc12 pm12 an12 cd12 ct12), sl12⟩) (c12 : PySem.W.codeIn K cd12 "is_same" = true) (k12 : PySem.W.keepIn K (.ref f12) = true)
    (a13 : PySem.W.nsIn K mainGlobals "next_lyndon" = some (some (.ref f13))) (l13 : K.lookup f13 = some ⟨oc13, od13, .func (PySem.W.fnOf "next_lyndon" "next_lyndon" (defArgs sNext) (defBody sNext) (defScope sNext) .none kV13 dc13 pm13 an13 cd13 ct13), sl13⟩) (c13 : PySem.W.codeIn K cd13 "next_lyndon" = true) (k13 : PySem.W.keepIn K (.ref f13) = true)
    (a14 : PySem.W.nsIn K mainGlobals "_behind" = some (some (.ref f14))) (l14 : K.lookup f14 = some ⟨oc14, od14, .func (PySem.W.fnOf "_behind" "_behind" (defArgs sBehind) (defBody sBehind) (defScope sBehind) .none kV14 dc14 pm14 an14 cd14 ct14), sl14⟩) (c14 : PySem.W.codeIn K cd14 "_behind" = true) (k14 : PySem.W.keepIn K (.ref f14) = true)
    (a15 : PySem.W.nsIn K mainGlobals "word_worth" = some (some (.ref f15))) (l15 : K.lookup f15 = some ⟨oc15, od15, .func (PySem.W.fnOf "word_worth" "word_worth" (defArgs sWorth) (defBody sWorth) (defScope sWorth) .none kV15 dc15 pm15 an15 cd15 ct15), sl15⟩) (c15 : PySem.W.codeIn K cd15 "word_worth" = true) (k15 : PySem.W.keepIn K (.ref f15) = true)
    (a16 : PySem.W.nsIn K mainGlobals "marks_of" = some (some (.ref f16))) (l16 : K.lookup f16 = some ⟨oc16, od16, .func (PySem.W.fnOf "marks_of" "marks_of" (defArgs sMarks) (defBody sMarks) (defScope sMarks) .none kV16 dc16 pm16 an16 cd16 ct16), sl16⟩) (c16 : PySem.W.codeIn K cd16 "marks_of" = true) (k16 : PySem.W.keepIn K (.ref f16) = true)
    (a17 : PySem.W.nsIn K mainGlobals "_law_box" = some (some (.ref f17))) (l17 : K.lookup f17 = some ⟨oc17, od17, .func (PySem.W.fnOf "_law_box" "_law_box" (defArgs sBox) (defBody sBox) (defScope sBox) .none kV17 dc17 pm17 an17 cd17 ct17), sl17⟩) (c17 : PySem.W.codeIn K cd17 "_law_box" = true) (k17 : PySem.W.keepIn K (.ref f17) = true)
    (a18 : PySem.W.nsIn K mainGlobals "_law_take" = some (some (.ref f18))) (l18 : K.lookup f18 = some ⟨oc18, od18, .func (PySem.W.fnOf "_law_take" "_law_take" (defArgs sTake) (defBody sTake) (defScope sTake) .none kV18 dc18 pm18 an18 cd18 ct18), sl18⟩) (c18 : PySem.W.codeIn K cd18 "_law_take" = true) (k18 : PySem.W.keepIn K (.ref f18) = true)
    (a19 : PySem.W.nsIn K mainGlobals "_law_cells" = some (some (.ref f19))) (l19 : K.lookup f19 = some ⟨oc19, od19, .func (PySem.W.fnOf "_law_cells" "_law_cells" (defArgs sCells) (defBody sCells) (defScope sCells) .none kV19 dc19 pm19 an19 cd19 ct19), sl19⟩) (c19 : PySem.W.codeIn K cd19 "_law_cells" = true) (k19 : PySem.W.keepIn K (.ref f19) = true)
    (a20 : PySem.W.nsIn K mainGlobals "_law_same" = some (some (.ref f20))) (l20 : K.lookup f20 = some ⟨oc20, od20, .func (PySem.W.fnOf "_law_same" "_law_same" (defArgs sAlike) (defBody sAlike) (defScope sAlike) .none kV20 dc20 pm20 an20 cd20 ct20), sl20⟩) (c20 : PySem.W.codeIn K cd20 "_law_same" = true) (k20 : PySem.W.keepIn K (.ref f20) = true)
    (a21 : PySem.W.nsIn K mainGlobals "_law_low" = some (some (.ref f21))) (l21 : K.lookup f21 = some ⟨oc21, od21, .func (PySem.W.fnOf "_law_low" "_law_low" (defArgs sLow) (defBody sLow) (defScope sLow) .none kV21 dc21 pm21 an21 cd21 ct21), sl21⟩) (c21 : PySem.W.codeIn K cd21 "_law_low" = true) (k21 : PySem.W.keepIn K (.ref f21) = true)
    (a22 : PySem.W.nsIn K mainGlobals "_law_add" = some (some (.ref f22))) (l22 : K.lookup f22 = some ⟨oc22, od22, .func (PySem.W.fnOf "_law_add" "_law_add" (defArgs sAdd) (defBody sAdd) (defScope sAdd) .none kV22 dc22 pm22 an22 cd22 ct22), sl22⟩) (c22 : PySem.W.codeIn K cd22 "_law_add" = true) (k22 : PySem.W.keepIn K (.ref f22) = true)
    (a23 : PySem.W.nsIn K mainGlobals "_law_mul" = some (some (.ref f23))) (l23 : K.lookup f23 = some ⟨oc23, od23, .func (PySem.W.fnOf "_law_mul" "_law_mul" (defArgs sMul) (defBody sMul) (defScope sMul) .none kV23 dc23 pm23 an23 cd23 ct23), sl23⟩) (c23 : PySem.W.codeIn K cd23 "_law_mul" = true) (k23 : PySem.W.keepIn K (.ref f23) = true)
    (a24 : PySem.W.nsIn K mainGlobals "_law_much" = some (some (.ref f24))) (l24 : K.lookup f24 = some ⟨oc24, od24, .func (PySem.W.fnOf "_law_much" "_law_much" (defArgs sMuch) (defBody sMuch) (defScope sMuch) .none kV24 dc24 pm24 an24 cd24 ct24), sl24⟩) (c24 : PySem.W.codeIn K cd24 "_law_much" = true) (k24 : PySem.W.keepIn K (.ref f24) = true)
    (a25 : PySem.W.nsIn K mainGlobals "_law_flows" = some (some (.ref f25))) (l25 : K.lookup f25 = some ⟨oc25, od25, .func (PySem.W.fnOf "_law_flows" "_law_flows" (defArgs sFlows) (defBody sFlows) (defScope sFlows) .none kV25 dc25 pm25 an25 cd25 ct25), sl25⟩) (c25 : PySem.W.codeIn K cd25 "_law_flows" = true) (k25 : PySem.W.keepIn K (.ref f25) = true)
    (a26 : PySem.W.nsIn K mainGlobals "_law_normal" = some (some (.ref f26))) (l26 : K.lookup f26 = some ⟨oc26, od26, .func (PySem.W.fnOf "_law_normal" "_law_normal" (defArgs sLNormal) (defBody sLNormal) (defScope sLNormal) .none kV26 dc26 pm26 an26 cd26 ct26), sl26⟩) (c26 : PySem.W.codeIn K cd26 "_law_normal" = true) (k26 : PySem.W.keepIn K (.ref f26) = true)
    (a27 : PySem.W.nsIn K mainGlobals "_law_undone" = some (some (.ref f27))) (l27 : K.lookup f27 = some ⟨oc27, od27, .func (PySem.W.fnOf "_law_undone" "_law_undone" (defArgs sUndone) (defBody sUndone) (defScope sUndone) .none kV27 dc27 pm27 an27 cd27 ct27), sl27⟩) (c27 : PySem.W.codeIn K cd27 "_law_undone" = true) (k27 : PySem.W.keepIn K (.ref f27) = true)
    (a28 : PySem.W.nsIn K mainGlobals "_law_near" = some (some (.ref f28))) (l28 : K.lookup f28 = some ⟨oc28, od28, .func (PySem.W.fnOf "_law_near" "_law_near" (defArgs sNear) (defBody sNear) (defScope sNear) .none kV28 dc28 pm28 an28 cd28 ct28), sl28⟩) (c28 : PySem.W.codeIn K cd28 "_law_near" = true) (k28 : PySem.W.keepIn K (.ref f28) = true)
    (a29 : PySem.W.nsIn K mainGlobals "_law_words" = some (some (.ref f29))) (l29 : K.lookup f29 = some ⟨oc29, od29, .func (PySem.W.fnOf "_law_words" "_law_words" (defArgs sWords) (defBody sWords) (defScope sWords) .none kV29 dc29 pm29 an29 cd29 ct29), sl29⟩) (c29 : PySem.W.codeIn K cd29 "_law_words" = true) (k29 : PySem.W.keepIn K (.ref f29) = true)
    (a30 : PySem.W.nsIn K mainGlobals "_law_series" = some (some (.ref f30))) (l30 : K.lookup f30 = some ⟨oc30, od30, .func (PySem.W.fnOf "_law_series" "_law_series" (defArgs sSeries) (defBody sSeries) (defScope sSeries) .none kV30 dc30 pm30 an30 cd30 ct30), sl30⟩) (c30 : PySem.W.codeIn K cd30 "_law_series" = true) (k30 : PySem.W.keepIn K (.ref f30) = true)
    (a31 : PySem.W.nsIn K mainGlobals "_law_ring" = some (some (.ref f31))) (l31 : K.lookup f31 = some ⟨oc31, od31, .func (PySem.W.fnOf "_law_ring" "_law_ring" (defArgs sRing) (defBody sRing) (defScope sRing) .none kV31 dc31 pm31 an31 cd31 ct31), sl31⟩) (c31 : PySem.W.codeIn K cd31 "_law_ring" = true) (k31 : PySem.W.keepIn K (.ref f31) = true)
    (a32 : PySem.W.nsIn K mainGlobals "_law_half_right" = some (some (.ref f32))) (l32 : K.lookup f32 = some ⟨oc32, od32, .func (PySem.W.fnOf "_law_half_right" "_law_half_right" (defArgs sHalf) (defBody sHalf) (defScope sHalf) .none kV32 dc32 pm32 an32 cd32 ct32), sl32⟩) (c32 : PySem.W.codeIn K cd32 "_law_half_right" = true) (k32 : PySem.W.keepIn K (.ref f32) = true)
    (a33 : PySem.W.nsIn K mainGlobals "_law_by_hand_right" = some (some (.ref f33))) (l33 : K.lookup f33 = some ⟨oc33, od33, .func (PySem.W.fnOf "_law_by_hand_right" "_law_by_hand_right" (defArgs sHand) (defBody sHand) (defScope sHand) .none kV33 dc33 pm33 an33 cd33 ct33), sl33⟩) (c33 : PySem.W.codeIn K cd33 "_law_by_hand_right" = true) (k33 : PySem.W.keepIn K (.ref f33) = true)
    (a34 : PySem.W.nsIn K mainGlobals "_law_right" = some (some (.ref f34))) (l34 : K.lookup f34 = some ⟨oc34, od34, .func (PySem.W.fnOf "_law_right" "_law_right" (defArgs sRight) (defBody sRight) (defScope sRight) .none kV34 dc34 pm34 an34 cd34 ct34), sl34⟩) (c34 : PySem.W.codeIn K cd34 "_law_right" = true) (k34 : PySem.W.keepIn K (.ref f34) = true)
    (a35 : PySem.W.nsIn K mainGlobals "law" = some (some (.ref f35))) (l35 : K.lookup f35 = some ⟨oc35, od35, .func (PySem.W.fnOf "law" "law" (defArgs sLaw) (defBody sLaw) (defScope sLaw) .none kV35 dc35 pm35 an35 cd35 ct35), sl35⟩) (c35 : PySem.W.codeIn K cd35 "law" = true) (k35 : PySem.W.keepIn K (.ref f35) = true)
    (aL : PySem.W.nsIn K mainGlobals "lyndon_words" = some (some (.ref fL))) (lL : K.lookup fL = some ⟨ocL, odL, .func (PySem.W.fnOf "lyndon_words" "lyndon_words" (defArgs sLyn) (defBody sLyn) (defScope sLyn) .none kVL dcL pmL anL (.ref cL) ctL), slL⟩) (cdL : PySem.W.codeIn K (.ref cL) "lyndon_words" = true) (kL : PySem.W.keepIn K (.ref fL) = true) (hdL : PySem.W.codeHdIn K cL Pt = true) (lP : K.lookup Pt = none)
    (z_isinstance : PySem.W.nsIn K mainGlobals "isinstance" = some none)
    (z_list : PySem.W.nsIn K mainGlobals "list" = some none)
    (z_tuple : PySem.W.nsIn K mainGlobals "tuple" = some none)
    (z_reversed : PySem.W.nsIn K mainGlobals "reversed" = some none)
    (z_min : PySem.W.nsIn K mainGlobals "min" = some none)
    (z_max : PySem.W.nsIn K mainGlobals "max" = some none)
    (z_range : PySem.W.nsIn K mainGlobals "range" = some none)
    (z_len : PySem.W.nsIn K mainGlobals "len" = some none)
    (z_sorted : PySem.W.nsIn K mainGlobals "sorted" = some none)
    (z_abs : PySem.W.nsIn K mainGlobals "abs" = some none)
    (z_int : PySem.W.nsIn K mainGlobals "int" = some none)
    (z_bool : PySem.W.nsIn K mainGlobals "bool" = some none)
    (z_str : PySem.W.nsIn K mainGlobals "str" = some none)
    (z_enumerate : PySem.W.nsIn K mainGlobals "enumerate" = some none)
    (z_zip : PySem.W.nsIn K mainGlobals "zip" = some none)
    (z_dict : PySem.W.nsIn K mainGlobals "dict" = some none)
    (z_all : PySem.W.nsIn K mainGlobals "all" = some none)
    (zg : PySem.W.nsIn K mainGlobals "gcd" = some (some (.builtin "math.gcd")))
    (gN : PySem.W.nsIn K mainGlobals "NONE_flowrows" = some (some (.ref aN))) (mN : K.lookup aN = some ⟨.type "tuple", odN, .seq #[.int 0 tN, .int 1 uN] nN, slN⟩)
    (gS : PySem.W.nsIn K mainGlobals "LESS" = some (some (.ref aS))) (mS : K.lookup aS = some ⟨.type "tuple", odS, .seq #[.int (-1) tS, .int 1 uS] nS, slS⟩)
    (gO : PySem.W.nsIn K mainGlobals "ONE" = some (some (.ref aO))) (mO : K.lookup aO = some ⟨.type "tuple", odO, .seq #[.int 1 tO, .int 1 uO] nO, slO⟩)
    (gP : PySem.W.nsIn K mainGlobals "NONE_parting" = some (some (.ref aP))) (mP : K.lookup aP = some ⟨.type "tuple", odP, .seq #[.int 0 tP, .int 1 uP] nP, slP⟩)
    : LawAtS l w K CX0 10 63 "_law_script" mg fa h := by
  have e := hfa.symm.trans (PySem.W.mg_of X G a35)
  cases e
  have T : Tx K mg := ⟨PySem.W.mg_none_of X G z_isinstance, PySem.W.mg_none_of X G z_list, PySem.W.mg_none_of X G z_tuple, PySem.W.mg_none_of X G z_reversed, PySem.W.mg_none_of X G z_min, PySem.W.mg_none_of X G z_max, PySem.W.mg_none_of X G z_range, PySem.W.mg_none_of X G z_len, PySem.W.mg_none_of X G z_sorted, PySem.W.mg_none_of X G z_abs, PySem.W.mg_none_of X G z_int, PySem.W.mg_none_of X G z_bool, PySem.W.mg_none_of X G z_str, PySem.W.mg_none_of X G z_enumerate, PySem.W.mg_none_of X G z_zip, PySem.W.mg_none_of X G z_dict, PySem.W.mg_none_of X G z_all, PySem.W.mg_of X G zg, ⟨aN, PySem.W.mg_of X G gN, const_tup mN⟩, ⟨aS, PySem.W.mg_of X G gS, const_tup mS⟩, ⟨aO, PySem.W.mg_of X G gO, const_tup mO⟩, ⟨aP, PySem.W.mg_of X G gP, const_tup mP⟩⟩
  have D0 : Df K mg "tuple_of" sTuple ["thing"] := df_mk X G a0 l0 c0 k0 fun _ _ _ _ _ _ us hl => match us, hl with | [_], _ => rfl
  have D1 : Df K mg "fraction" sFraction ["top", "bottom"] := df_mk X G a1 l1 c1 k1 fun _ _ _ _ _ _ us hl => match us, hl with | [_, _], _ => rfl
  have D2 : Df K mg "whole" sWhole ["number"] := df_mk X G a2 l2 c2 k2 fun _ _ _ _ _ _ us hl => match us, hl with | [_], _ => rfl
  have D3 : Df K mg "plus" sPlus ["x", "y"] := df_mk X G a3 l3 c3 k3 fun _ _ _ _ _ _ us hl => match us, hl with | [_, _], _ => rfl
  have D4 : Df K mg "times" sTimes ["x", "y"] := df_mk X G a4 l4 c4 k4 fun _ _ _ _ _ _ us hl => match us, hl with | [_, _], _ => rfl
  have D5 : Df K mg "over" sOver ["x", "y"] := df_mk X G a5 l5 c5 k5 fun _ _ _ _ _ _ us hl => match us, hl with | [_, _], _ => rfl
  have D6 : Df K mg "row_turned" sTurned ["row"] := df_mk X G a6 l6 c6 k6 fun _ _ _ _ _ _ us hl => match us, hl with | [_], _ => rfl
  have D7 : Df K mg "row_joined" sJoined ["row", "other"] := df_mk X G a7 l7 c7 k7 fun _ _ _ _ _ _ us hl => match us, hl with | [_, _], _ => rfl
  have D8 : Df K mg "go_together" sGo ["one", "two", "meets"] := df_mk X G a8 l8 c8 k8 fun _ _ _ _ _ _ us hl => match us, hl with | [_, _, _], _ => rfl
  have D9 : Df K mg "place_to_meet" sPlace ["pairs", "part", "meets"] := df_mk X G a9 l9 c9 k9 fun _ _ _ _ _ _ us hl => match us, hl with | [_, _, _], _ => rfl
  have D10 : Df K mg "shortened" sShort ["row", "meets"] := df_mk X G a10 l10 c10 k10 fun _ _ _ _ _ _ us hl => match us, hl with | [_, _], _ => rfl
  have D11 : Df K mg "normal_row" sNormalRow ["row"] := df_mk X G a11 l11 c11 k11 fun _ _ _ _ _ _ us hl => match us, hl with | [_], _ => rfl
  have D12 : Df K mg "is_same" sSame ["row", "other"] := df_mk X G a12 l12 c12 k12 fun _ _ _ _ _ _ us hl => match us, hl with | [_, _], _ => rfl
  have D13 : Df K mg "next_lyndon" sNext ["word", "many", "power"] := df_mk X G a13 l13 c13 k13 fun _ _ _ _ _ _ us hl => match us, hl with | [_, _, _], _ => rfl
  have D14 : Df K mg "_behind" sBehind ["found", "letters", "part", "x"] := df_mk X G a14 l14 c14 k14 fun _ _ _ _ _ _ us hl => match us, hl with | [_, _, _, _], _ => rfl
  have D15 : Df K mg "word_worth" sWorth ["row", "word"] := df_mk X G a15 l15 c15 k15 fun _ _ _ _ _ _ us hl => match us, hl with | [_, _], _ => rfl
  have D16 : Df K mg "marks_of" sMarks ["row", "many", "power"] := df_mk X G a16 l16 c16 k16 fun _ _ _ _ _ _ us hl => match us, hl with | [_, _, _], _ => rfl
  have D17 : Df K mg "_law_box" sBox ["_law_script", "_law_k"] := df_mk X G a17 l17 c17 k17 fun _ _ _ _ _ _ us hl => match us, hl with | [_, _], _ => rfl
  have D18 : Df K mg "_law_take" sTake ["_law_urn", "_law_low_so"] := df_mk X G a18 l18 c18 k18 fun _ _ _ _ _ _ us hl => match us, hl with | [_, _], _ => rfl
  have D19 : Df K mg "_law_cells" sCells ["_law_script", "_law_roof_so"] := df_mk X G a19 l19 c19 k19 fun _ _ _ _ _ _ us hl => match us, hl with | [_, _], _ => rfl
  have D20 : Df K mg "_law_same" sAlike ["_law_near_here", "_law_due"] := df_mk X G a20 l20 c20 k20 fun _ _ _ _ _ _ us hl => match us, hl with | [_, _], _ => rfl
  have D21 : Df K mg "_law_low" sLow ["_law_top_so", "_law_down_so"] := df_mk X G a21 l21 c21 k21 fun _ _ _ _ _ _ us hl => match us, hl with | [_, _], _ => rfl
  have D22 : Df K mg "_law_add" sAdd ["_law_own", "_law_far"] := df_mk X G a22 l22 c22 k22 fun _ _ _ _ _ _ us hl => match us, hl with | [_, _], _ => rfl
  have D23 : Df K mg "_law_mul" sMul ["_law_own", "_law_far"] := df_mk X G a23 l23 c23 k23 fun _ _ _ _ _ _ us hl => match us, hl with | [_, _], _ => rfl
  have D24 : Df K mg "_law_much" sMuch ["_law_urn"] := df_mk X G a24 l24 c24 k24 fun _ _ _ _ _ _ us hl => match us, hl with | [_], _ => rfl
  have D25 : Df K mg "_law_flows" sFlows ["_law_urn", "_law_wide_so", "_law_most_so"] := df_mk X G a25 l25 c25 k25 fun _ _ _ _ _ _ us hl => match us, hl with | [_, _, _], _ => rfl
  have D26 : Df K mg "_law_normal" sLNormal ["_law_flows_so"] := df_mk X G a26 l26 c26 k26 fun _ _ _ _ _ _ us hl => match us, hl with | [_], _ => rfl
  have D27 : Df K mg "_law_undone" sUndone ["_law_flows_so"] := df_mk X G a27 l27 c27 k27 fun _ _ _ _ _ _ us hl => match us, hl with | [_], _ => rfl
  have D28 : Df K mg "_law_near" sNear ["_law_urn", "_law_flows_so", "_law_wide_so"] := df_mk X G a28 l28 c28 k28 fun _ _ _ _ _ _ us hl => match us, hl with | [_, _, _], _ => rfl
  have D29 : Df K mg "_law_words" sWords ["_law_wide_so", "_law_long_so"] := df_mk X G a29 l29 c29 k29 fun _ _ _ _ _ _ us hl => match us, hl with | [_, _], _ => rfl
  have D30 : Df K mg "_law_series" sSeries ["_law_flows_so", "_law_words_so"] := df_mk X G a30 l30 c30 k30 fun _ _ _ _ _ _ us hl => match us, hl with | [_, _], _ => rfl
  have D31 : Df K mg "_law_ring" sRing ["_law_flows_so"] := df_mk X G a31 l31 c31 k31 fun _ _ _ _ _ _ us hl => match us, hl with | [_], _ => rfl
  have D32 : Df K mg "_law_half_right" sHalf ["_law_flows_so", "_law_other_so", "_law_wide_so"] := df_mk X G a32 l32 c32 k32 fun _ _ _ _ _ _ us hl => match us, hl with | [_, _, _], _ => rfl
  have D33 : Df K mg "_law_by_hand_right" sHand [] := df_mk X G a33 l33 c33 k33 fun _ _ _ _ _ _ us hl => match us, hl with | [], _ => rfl
  have D34 : Df K mg "_law_right" sRight ["_law_urn"] := df_mk X G a34 l34 c34 k34 fun _ _ _ _ _ _ us hl => match us, hl with | [_], _ => rfl
  have D35 : Df K mg "law" sLaw ["_law_script"] := df_mk X G a35 l35 c35 k35 fun _ _ _ _ _ _ us hl => match us, hl with | [_], _ => rfl
  have DL : DfC K mg "lyndon_words" sLyn ["many", "power"] cL := ⟨⟨fL, ocL, odL, slL, kVL, dcL, pmL, anL, ctL, lL, cdL, kL, PySem.W.mg_of X G aL, (fun_mk (st := sLyn) lL cdL kL).binds fun _ _ _ _ _ _ us hl => match us, hl with | [_, _], _ => rfl⟩⟩
  refine ⟨PySem.W.fnOf "law" "law" (defArgs sLaw) (defBody sLaw) (defScope sLaw) .none kV35 dc35 pm35 an35 cd35 ct35, [(cL, Pt)], spLaw (TL Pt) K, ?_, ?_, ?_, fun s v => .of_eq rfl, ?_, ?_⟩
  · intro p hp; rw [List.mem_singleton] at hp; subst hp; exact hP
  · intro p hp; rw [List.mem_singleton] at hp; subst hp; exact lP
  · intro p hp; rw [List.mem_singleton] at hp; subst hp; exact PySem.W.codeHd_of_K X hdL
  · intro H a ns hn _ hH hs
    exact ⟨a, ns, rfl, hs, hn, fun p hp => by rw [List.mem_singleton] at hp; subst hp; exact TabS.nil (hH (cL, Pt) List.mem_cons_self), fun _ => rfl⟩
  · intro base KB GB hT
    have TB : TabB base mg cL Pt := hT (cL, Pt) List.mem_cons_self
    have tup := ok_tuple (P := l.prog) (w := w) (base := base) D0 T
    have fra := ok_fraction (P := l.prog) (w := w) (base := base) D1 T
    have who := ok_whole (P := l.prog) (w := w) (base := base) D2
    have plu := ok_plus (P := l.prog) (w := w) (base := base) D3 fra
    have tim := ok_times (P := l.prog) (w := w) (base := base) D4 fra
    have ove := ok_over (P := l.prog) (w := w) (base := base) D5 fra
    have low := ok_low (P := l.prog) (w := w) (base := base) D21 T
    have add := ok_add (P := l.prog) (w := w) (base := base) D22 low
    have mul := ok_mul (P := l.prog) (w := w) (base := base) D23 low
    have tur := ok_turned (P := l.prog) (w := w) (base := base) D6 T (tup 3) (tim.mono (by decide))
    have joi := ok_joined (P := l.prog) (w := w) (base := base) D7 (tup 3)
    have goo := ok_go (P := l.prog) (w := w) (base := base) D8 T
    have pla := ok_place (P := l.prog) (w := w) (base := base) D9 T goo
    have sho := ok_short (P := l.prog) (w := w) (base := base) D10 T (tup 3) (pla.mono (by decide)) (plu.mono (by decide))
    have nor := ok_normal_row (P := l.prog) (w := w) (base := base) D11 T sho
    have sam := ok_same (P := l.prog) (w := w) (base := base) D12 nor
    have lno := ok_lnormal (P := l.prog) (w := w) (base := base) D26 T add
    have und := ok_undone (P := l.prog) (w := w) (base := base) D27 T
    have rin := ok_ring (P := l.prog) (w := w) (base := base) D31 T lno
    have beh := ok_behind (P := l.prog) (w := w) (base := base) D14 T (who.mono (by decide)) plu tim ove
    have wor := ok_worth (P := l.prog) (w := w) (base := base) D15 T (tup 3) ((tup 1).mono (by decide)) (beh.mono (by decide))
    have nex := ok_next (P := l.prog) (w := w) (base := base) D13 T
    have lyn := ok_lyn (P := l.prog) (w := w) (base := base) DL T TB nex
    have mar := ok_marksT (P := l.prog) (w := w) (base := base) D16 T (lyn.mono (by decide)) wor
    have tak := ok_take (P := l.prog) (w := w) (base := base) D18 T
    have muc := ok_much (P := l.prog) (w := w) (base := base) D24 tak
    have flo := ok_flows (P := l.prog) (w := w) (base := base) D25 T (tak.mono (by decide)) muc
    have nea := ok_near (P := l.prog) (w := w) (base := base) D28 T (tak.mono (by decide)) muc add
    have cel := ok_cells (P := l.prog) (w := w) (base := base) D19 T
    have box := ok_box (P := l.prog) (w := w) (base := base) D17 T
    have wds := ok_words (P := l.prog) (w := w) (base := base) D29 T
    have ser := ok_series (P := l.prog) (w := w) (base := base) D30 T (low.mono (by decide)) add mul
    have ali := ok_alike (P := l.prog) (w := w) (base := base) D20 T
    have hal := ok_half (P := l.prog) (w := w) (base := base) D32 T (und.mono (by decide)) (rin.mono (by decide)) sam ((ali 3).mono (by decide)) (wds.mono (by decide)) (ser.mono (by decide)) (lyn.mono (by decide)) (mar.mono (by decide)) (wor.mono (by decide)) (joi.mono (by decide)) (tur.mono (by decide))
    have han := ok_hand (P := l.prog) (w := w) (base := base) D33 T (rin.mono (by decide)) ((ali 4).mono (by decide)) (mar.mono (by decide)) hal
    have rig := ok_right (P := l.prog) (w := w) (base := base) D34 T (tak.mono (by decide)) (muc.mono (by decide)) (flo.mono (by decide)) (nea.mono (by decide)) (und.mono (by decide)) hal
    exact fn_law (P := l.prog) (w := w) (base := base) (fun_mk (st := sLaw) l35 c35 k35) T han (cel.mono (by decide)) (box.mono (by decide)) rig
end L2

set_option Elab.async false
set_option linter.all false
open PySem PySem.W PyProof.Rows in
set_option maxRecDepth 100000 in
set_option maxHeartbeats 0 in
theorem PySem.Challenge.cw_everychange_k29_across_unlike_rows_part_holds : PySem.Challenge.rw_everychange_k29_across_unlike_rows_part.Holds := by
  w_on; o_law; k_head; (case hw => w_witness2)
  k_fill
  refine LamX.walk_ofTs (l := PySem.Challenge.rw_everychange_k29_across_unlike_rows_part) (n := 63) (k := 10) (x := "_law_script") (CX := fun _ => L2.CX0) rfl (by decide) rfl ⟨rfl, by decide, by decide⟩ (fun w h Y => PySem.W.km_in_of Y) ?F (fun _ _ _ _ _ z => z)
  case F =>
    intro w mg fa h Y KX G hmg
    refine' L2.all_mk 151 KX G hmg (PySem.W.km_tabs_of Y 151 (List.mem_singleton.mpr rfl)) ?a0 ?l0 ?c0 ?k0 ?a1 ?l1 ?c1 ?k1 ?a2 ?l2 ?c2 ?k2 ?a3 ?l3 ?c3 ?k3 ?a4 ?l4 ?c4 ?k4 ?a5 ?l5 ?c5 ?k5 ?a6 ?l6 ?c6 ?k6 ?a7 ?l7 ?c7 ?k7 ?a8 ?l8 ?c8 ?k8 ?a9 ?l9 ?c9 ?k9 ?a10 ?l10 ?c10 ?k10 ?a11 ?l11 ?c11 ?k11 ?a12 ?l12 ?c12 ?k12 ?a13 ?l13 ?c13 ?k13 ?a14 ?l14 ?c14 ?k14 ?a15 ?l15 ?c15 ?k15 ?a16 ?l16 ?c16 ?k16 ?a17 ?l17 ?c17 ?k17 ?a18 ?l18 ?c18 ?k18 ?a19 ?l19 ?c19 ?k19 ?a20 ?l20 ?c20 ?k20 ?a21 ?l21 ?c21 ?k21 ?a22 ?l22 ?c22 ?k22 ?a23 ?l23 ?c23 ?k23 ?a24 ?l24 ?c24 ?k24 ?a25 ?l25 ?c25 ?k25 ?a26 ?l26 ?c26 ?k26 ?a27 ?l27 ?c27 ?k27 ?a28 ?l28 ?c28 ?k28 ?a29 ?l29 ?c29 ?k29 ?a30 ?l30 ?c30 ?k30 ?a31 ?l31 ?c31 ?k31 ?a32 ?l32 ?c32 ?k32 ?a33 ?l33 ?c33 ?k33 ?a34 ?l34 ?c34 ?k34 ?a35 ?l35 ?c35 ?k35 ?aL ?lL ?cdL ?kL ?hdL ?lP ?z_isinstance ?z_list ?z_tuple ?z_reversed ?z_min ?z_max ?z_range ?z_len ?z_sorted ?z_abs ?z_int ?z_bool ?z_str ?z_enumerate ?z_zip ?z_dict ?z_all ?zg ?gN ?mN ?gS ?mS ?gO ?mO ?gP ?mP
    (case a0 => k_is)
    (case l0 => k_is)
    (case c0 => k_is)
    (case k0 => k_is)
    (case a1 => k_is)
    (case l1 => k_is)
    (case c1 => k_is)
    (case k1 => k_is)
    (case a2 => k_is)
    (case l2 => k_is)
    (case c2 => k_is)
    (case k2 => k_is)
    (case a3 => k_is)
    (case l3 => k_is)
    (case c3 => k_is)
    (case k3 => k_is)
    (case a4 => k_is)
    (case l4 => k_is)
    (case c4 => k_is)
    (case k4 => k_is)
    (case a5 => k_is)
    (case l5 => k_is)
    (case c5 => k_is)
    (case k5 => k_is)
    (case a6 => k_is)
    (case l6 => k_is)
    (case c6 => k_is)
    (case k6 => k_is)
    (case a7 => k_is)
    (case l7 => k_is)
    (case c7 => k_is)
    (case k7 => k_is)
    (case a8 => k_is)
    (case l8 => k_is)
    (case c8 => k_is)
    (case k8 => k_is)
    (case a9 => k_is)
    (case l9 => k_is)
    (case c9 => k_is)
    (case k9 => k_is)
    (case a10 => k_is)
    (case l10 => k_is)
    (case c10 => k_is)
    (case k10 => k_is)
    (case a11 => k_is)
    (case l11 => k_is)
    (case c11 => k_is)
    (case k11 => k_is)
    (case a12 => k_is)
    (case l12 => k_is)
    (case c12 => k_is)
    (case k12 => k_is)
    (case a13 => k_is)
    (case l13 => k_is)
    (case c13 => k_is)
    (case k13 => k_is)
    (case a14 => k_is)
    (case l14 => k_is)
    (case c14 => k_is)
    (case k14 => k_is)
    (case a15 => k_is)
    (case l15 => k_is)
    (case c15 => k_is)
    (case k15 => k_is)
    (case a16 => k_is)
    (case l16 => k_is)
    (case c16 => k_is)
    (case k16 => k_is)
    (case a17 => k_is)
    (case l17 => k_is)
    (case c17 => k_is)
    (case k17 => k_is)
    (case a18 => k_is)
    (case l18 => k_is)
    (case c18 => k_is)
    (case k18 => k_is)
    (case a19 => k_is)
    (case l19 => k_is)
    (case c19 => k_is)
    (case k19 => k_is)
    (case a20 => k_is)
    (case l20 => k_is)
    (case c20 => k_is)
    (case k20 => k_is)
    (case a21 => k_is)
    (case l21 => k_is)
    (case c21 => k_is)
    (case k21 => k_is)
    (case a22 => k_is)
    (case l22 => k_is)
    (case c22 => k_is)
    (case k22 => k_is)
    (case a23 => k_is)
    (case l23 => k_is)
    (case c23 => k_is)
    (case k23 => k_is)
    (case a24 => k_is)
    (case l24 => k_is)
    (case c24 => k_is)
    (case k24 => k_is)
    (case a25 => k_is)
    (case l25 => k_is)
    (case c25 => k_is)
    (case k25 => k_is)
    (case a26 => k_is)
    (case l26 => k_is)
    (case c26 => k_is)
    (case k26 => k_is)
    (case a27 => k_is)
    (case l27 => k_is)
    (case c27 => k_is)
    (case k27 => k_is)
    (case a28 => k_is)
    (case l28 => k_is)
    (case c28 => k_is)
    (case k28 => k_is)
    (case a29 => k_is)
    (case l29 => k_is)
    (case c29 => k_is)
    (case k29 => k_is)
    (case a30 => k_is)
    (case l30 => k_is)
    (case c30 => k_is)
    (case k30 => k_is)
    (case a31 => k_is)
    (case l31 => k_is)
    (case c31 => k_is)
    (case k31 => k_is)
    (case a32 => k_is)
    (case l32 => k_is)
    (case c32 => k_is)
    (case k32 => k_is)
    (case a33 => k_is)
    (case l33 => k_is)
    (case c33 => k_is)
    (case k33 => k_is)
    (case a34 => k_is)
    (case l34 => k_is)
    (case c34 => k_is)
    (case k34 => k_is)
    (case a35 => k_is)
    (case l35 => k_is)
    (case c35 => k_is)
    (case k35 => k_is)
    (case aL => k_is)
    (case lL => k_is)
    (case cdL => k_is)
    (case kL => k_is)
    (case hdL => first | k_is | rfl | kernel_rfl)
    (case lP => first | k_is | rfl | kernel_rfl)
    (case z_isinstance => k_is)
    (case z_list => k_is)
    (case z_tuple => k_is)
    (case z_reversed => k_is)
    (case z_min => k_is)
    (case z_max => k_is)
    (case z_range => k_is)
    (case z_len => k_is)
    (case z_sorted => k_is)
    (case z_abs => k_is)
    (case z_int => k_is)
    (case z_bool => k_is)
    (case z_str => k_is)
    (case z_enumerate => k_is)
    (case z_zip => k_is)
    (case z_dict => k_is)
    (case z_all => k_is)
    (case zg => k_is)
    (case gN => k_is)
    (case mN => k_is)
    (case gS => k_is)
    (case mS => k_is)
    (case gO => k_is)
    (case mO => k_is)
    (case gP => k_is)
    (case mP => k_is)
