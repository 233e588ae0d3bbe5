import PyProof.Rows.All
import Wide.All
import OpenK.AllK
import Wide.FinOn
import HandS.ForMost
import HandS.Evl
import HandS.Deep
import HandS.TupAny
import HandS.TupMul
import HandS.SortKw
import HandS.TupLe
import HandS.Flow
import HandS.Rev
import HandS.RevTup
import HandS.Zip
import HandS.IsInst
import KE.KTupSum
import KE.DataMinMax
import KE.SortData
import KE.KDictKeyed
import PyProof.P3In
import KE.KDictDisplayH
import HandS.Conv
import PySem.Challenge.RW_shorterline_k58_whole_alike_halls
import HandS.Words
import HandS.WordsList
import HandS.WordsDict
import HandS.Defaults
import KE.KStateDown
import Lean
import HandS.Base
import HandS.Call
import HandS.Ends
import HandS.More
import HandS.WordsExc
import HandS.Head0
import HandS.Head1
import HandS.Head2
import HandS.HeadEnd
import HandS.HeadHook1
import HandS.HeadHook2
set_option autoImplicit false
set_option linter.all false
/-! Plain mathematics: lines as lists of numbers, dominance by thresholds. -/
namespace K58
/-- how much stands above the threshold t -/
def ex (x : List Nat) (t : Nat) : Nat := (x.map fun a => a - t).sum
/-- how many lines are longer than t -/
def cn (x : List Nat) (t : Nat) : Nat := x.countP fun a => decide (t < a)
def Dom (x y : List Nat) (l : Nat) : Prop := ∀ t, ex x t ≤ ex y t + l
def Dn (x : List Nat) : Prop := x.Pairwise fun a b => b ≤ a

theorem ex_cons (a : Nat) (x : List Nat) (t : Nat) : ex (a :: x) t = (a - t) + ex x t := by simp [ex]
theorem ex_zero (x : List Nat) : ex x 0 = x.sum := by simp [ex]
theorem ex_perm {x y : List Nat} (h : x.Perm y) (t : Nat) : ex x t = ex y t := (h.map _).sum_nat
theorem cn_cons (a : Nat) (x : List Nat) (t : Nat) : cn (a :: x) t = cn x t + if t < a then 1 else 0 := by
  simp [cn, List.countP_cons]
theorem ex_succ : ∀ (x : List Nat) (t : Nat), ex x t = ex x (t + 1) + cn x t
  | [], t => by simp [ex, cn]
  | a :: x, t => by
    rw [ex_cons, ex_cons, cn_cons, ex_succ x t]
    split <;> omega
theorem ex_inc : ∀ {x : List Nat} {c a : Nat} (t : Nat), x[c]? = some a → ex (x.set c (a + 1)) t = ex x t + if t ≤ a then 1 else 0
  | [], c, a, t, h => by simp at h
  | b :: x, 0, a, t, h => by
    simp at h; subst h
    rw [List.set_cons_zero, ex_cons, ex_cons]
    split <;> omega
  | b :: x, c + 1, a, t, h => by
    rw [List.set_cons_succ, ex_cons, ex_cons, ex_inc (x := x) t (by simpa using h)]
    omega
theorem ex_dec : ∀ {x : List Nat} {c a : Nat} (t : Nat), x[c]? = some a → ex (x.set c (a - 1)) t + (if t < a then 1 else 0) = ex x t
  | [], c, a, t, h => by simp at h
  | b :: x, 0, a, t, h => by
    simp at h; subst h
    rw [List.set_cons_zero, ex_cons, ex_cons]
    split <;> omega
  | b :: x, c + 1, a, t, h => by
    rw [List.set_cons_succ, ex_cons, ex_cons, ← ex_dec (x := x) t (by simpa using h)]
    omega
/-- sorted down: a line longer than t at place k: so are k + 1 lines -/
theorem cn_ge : ∀ {x : List Nat} {k a t : Nat}, Dn x → x[k]? = some a → t < a → k + 1 ≤ cn x t
  | [], k, a, t, _, h, _ => by simp at h
  | b :: x, 0, a, t, _, h, g => by
    simp at h; subst h
    rw [cn_cons, if_pos g]; omega
  | b :: x, k + 1, a, t, d, h, g => by
    have hd := List.pairwise_cons.mp d
    have h' : x[k]? = some a := by simpa using h
    have hb : a ≤ b := hd.1 a (List.mem_of_getElem? h')
    rw [cn_cons, if_pos (by omega)]
    have := cn_ge hd.2 h' g
    omega
theorem cn_zero {x : List Nat} {t : Nat} (h : ∀ b ∈ x, b ≤ t) : cn x t = 0 := by
  unfold cn
  rw [List.countP_eq_zero]
  intro b hb
  have := h b hb
  simp; omega
/-- .. not longer than t at place k: at most k lines are -/
theorem cn_le : ∀ {x : List Nat} {k a t : Nat}, Dn x → x[k]? = some a → a ≤ t → cn x t ≤ k
  | [], k, a, t, _, h, _ => by simp at h
  | b :: x, 0, a, t, d, h, g => by
    simp at h; subst h
    have hd := List.pairwise_cons.mp d
    rw [cn_zero fun c hc => by
      rcases List.mem_cons.mp hc with e | hc
      · omega
      · exact Nat.le_trans (hd.1 c hc) g]
    omega
  | b :: x, k + 1, a, t, d, h, g => by
    have hd := List.pairwise_cons.mp d
    have h' : x[k]? = some a := by simpa using h
    have := cn_le hd.2 h' g
    rw [cn_cons]
    split <;> omega
theorem ex_big {x : List Nat} {r : Nat} (h : ∀ b ∈ x, b ≤ r) : ex x r = 0 := by
  induction x with
  | nil => rfl
  | cons a x ih =>
    rw [ex_cons, ih fun b hb => h b (List.mem_cons_of_mem _ hb)]
    have := h a (List.mem_cons_self ..)
    omega
theorem ex_anti (x : List Nat) {t u : Nat} (h : t ≤ u) : ex x u ≤ ex x t := by
  induction x with
  | nil => exact Nat.le_refl _
  | cons a x ih => rw [ex_cons, ex_cons]; omega

/-- a move's two kinds on lines -/
def comeAt (r : Nat) (x : List Nat) (c : Nat) : List Nat × Bool := if x.getD c 0 = r then (x, true) else (x.set c (x.getD c 0 + 1), false)
def doneAt (x : List Nat) (k : Nat) : List Nat := if 0 < x.getD k 0 then x.set k (x.getD k 0 - 1) else x
def b2n (b : Bool) : Nat := if b then 1 else 0

theorem getD_of {x : List Nat} {c a : Nat} (h : x[c]? = some a) : x.getD c 0 = a := by simp [List.getD, h]
theorem some_of {x : List Nat} {c : Nat} (h : c < x.length) : x[c]? = some (x.getD c 0) := by
  simp [List.getD, List.getElem?_eq_getElem h]

/-- strictly less above a threshold t > v where x_a ≥ t and y_a < t -/
theorem gap {x y : List Nat} {l a t u v : Nat} (dx : Dn x) (dy : Dn y) (D : Dom x y l) (hx : x[a]? = some u) (hy : y[a]? = some v) (h1 : t ≤ u) (h2 : v < t) : ex x t + 1 ≤ ex y t + l := by
  obtain ⟨t, rfl⟩ : ∃ s, t = s + 1 := ⟨t - 1, by omega⟩
  have e1 := ex_succ x t
  have e2 := ex_succ y t
  have c1 := cn_ge dx hx (t := t) (by omega)
  have c2 := cn_le dy hy (t := t) (by omega)
  have := D t
  omega

theorem dom_come {r : Nat} {x y : List Nat} {l c a : Nat} (dx : Dn x) (dy : Dn y) (bx : ∀ b ∈ x, b ≤ r) (by_ : ∀ b ∈ y, b ≤ r) (D : Dom x y l) (hc : c < x.length) (ha : a < y.length) (hax : a < x.length) (le : x.getD c 0 ≤ x.getD a 0) :
    ∃ l', l' + b2n (comeAt r x c).2 = l + b2n (comeAt r y a).2 ∧ Dom (comeAt r x c).1 (comeAt r y a).1 l' := by
  have ec := some_of hc
  have ea := some_of hax
  have ey := some_of ha
  generalize x.getD c 0 = p at *
  generalize hp : x.getD a 0 = u at *
  generalize hv : y.getD a 0 = v at *
  have hpr : p ≤ r := bx p (List.mem_of_getElem? ec)
  have hvr : v ≤ r := by_ v (List.mem_of_getElem? ey)
  have hur : u ≤ r := bx u (List.mem_of_getElem? ea)
  have fx : comeAt r x c = if p = r then (x, true) else (x.set c (p + 1), false) := by
    unfold comeAt; rw [getD_of ec]
  have fy : comeAt r y a = if v = r then (y, true) else (y.set a (v + 1), false) := by
    unfold comeAt; rw [getD_of ey]
  rw [fx, fy]
  by_cases h1 : p = r
  · rw [if_pos h1]
    by_cases h2 : v = r
    · rw [if_pos h2]
      exact ⟨l, by simp, D⟩
    · rw [if_neg h2]
      have hu : u = r := by omega
      have g := gap dx dy D ea ey (t := r) (by omega) (by omega)
      have z := ex_big by_
      refine ⟨l - 1, by simp [b2n]; omega, fun t => ?_⟩
      show ex x t ≤ ex (y.set a (v + 1)) t + (l - 1)
      rw [ex_inc t ey]
      by_cases h3 : t ≤ v
      · rw [if_pos h3]; have := D t; omega
      · rw [if_neg h3]
        by_cases h4 : t ≤ r
        · have := gap dx dy D ea ey (t := t) (by omega) (by omega)
          omega
        · have := ex_anti x (t := r) (u := t) (by omega)
          have := ex_big bx
          omega
  · rw [if_neg h1]
    by_cases h2 : v = r
    · rw [if_pos h2]
      refine ⟨l + 1, by simp [b2n], fun t => ?_⟩
      show ex (x.set c (p + 1)) t ≤ ex y t + (l + 1)
      rw [ex_inc t ec]
      have := D t
      split <;> omega
    · rw [if_neg h2]
      refine ⟨l, by simp, fun t => ?_⟩
      show ex (x.set c (p + 1)) t ≤ ex (y.set a (v + 1)) t + l
      rw [ex_inc t ec, ex_inc t ey]
      have := D t
      by_cases h3 : t ≤ p
      · rw [if_pos h3]
        by_cases h4 : t ≤ v
        · rw [if_pos h4]; omega
        · rw [if_neg h4]
          have := gap dx dy D ea ey (t := t) (by omega) (by omega)
          omega
      · rw [if_neg h3]; omega

theorem ex_doneAt {x : List Nat} {k : Nat} (hk : k < x.length) (t : Nat) : ex (doneAt x k) t + (if t < x.getD k 0 then 1 else 0) = ex x t := by
  have e := some_of hk
  unfold doneAt
  by_cases h : 0 < x.getD k 0
  · rw [if_pos h]; exact ex_dec t e
  · rw [if_neg h, if_neg (by omega)]; rfl

theorem dom_done {x y : List Nat} {l k : Nat} (dx : Dn x) (dy : Dn y) (D : Dom x y l) (hx : k < x.length) (hy : k < y.length) : Dom (doneAt x k) (doneAt y k) l := by
  intro t
  have e1 := ex_doneAt hx t
  have e2 := ex_doneAt hy t
  have := D t
  by_cases h1 : t < x.getD k 0
  · rw [if_pos h1] at e1
    split at e2 <;> omega
  · rw [if_neg h1] at e1
    by_cases h2 : t < y.getD k 0
    · rw [if_pos h2] at e2
      have f1 := ex_succ x t
      have f2 := ex_succ y t
      have c1 := cn_ge dy (some_of hy) h2
      have c2 := cn_le dx (some_of hx) (t := t) (by omega)
      have := D (t + 1)
      omega
    · rw [if_neg h2] at e2; omega
theorem dom_perm {x y x' y' : List Nat} {l : Nat} (hx : x'.Perm x) (hy : y'.Perm y) (D : Dom x y l) : Dom x' y' l := fun t => by
  rw [ex_perm hx, ex_perm hy]; exact D t
theorem Dom.sum {x y : List Nat} {l : Nat} (D : Dom x y l) : x.sum ≤ y.sum + l := by
  have := D 0
  rw [ex_zero, ex_zero] at this
  exact this

/-! ### lines kept, rules, moves -/
def srt (x : List Nat) : List Nat := x.mergeSort fun a b => decide (b ≤ a)
theorem srt_perm (x : List Nat) : (srt x).Perm x := List.mergeSort_perm x _
theorem srt_dn (x : List Nat) : Dn (srt x) := by
  have h := List.pairwise_mergeSort (le := fun a b : Nat => decide (b ≤ a)) (fun a b c h1 h2 => by simp at *; omega) (fun a b => by simp; omega) x
  exact h.imp fun h => by simpa using h
theorem srt_len (x : List Nat) : (srt x).length = x.length := (srt_perm x).length_eq
theorem srt_of {x : List Nat} (h : Dn x) : srt x = x := List.mergeSort_of_pairwise (h.imp fun h => by simpa using h)

inductive Rl where
  | random | two | least | quick
  | told (ps : List Nat)
inductive Mv where
  | come (o : List Nat)
  | done (k : Nat)
  | still
/-- the first with the fewest, f ahead -/
def best (x : List Nat) : Nat → List Nat → Nat
  | f, [] => f
  | f, k :: o => best x (if x.getD k 0 < x.getD f 0 then k else f) o
def place (r : Nat) (x : List Nat) : Nat := x.foldl (fun f a => f * (r + 1) + a) 0
def sent (r : Nat) : Rl → List Nat → List Nat → Nat
  | .random, _, o => o.getD 0 0
  | .two, x, o => if 1 < o.length ∧ x.getD (o.getD 1 0) 0 < x.getD (o.getD 0 0) 0 then o.getD 1 0 else o.getD 0 0
  | .least, x, o => best x (o.getD 0 0) (o.drop 1)
  | .quick, x, o => best x (o.getD 0 0) (o.drop 1)
  | .told ps, x, _ => ps.getD (place r x) 0
def step (r : Nat) (R : Rl) (x : List Nat) : Mv → List Nat × Bool
  | .come o => comeAt r x (sent r R x o)
  | .done k => (doneAt x k, false)
  | .still => (x, false)
abbrev Tr := List Nat × List Nat × Int
def both (r : Nat) (R S : Rl) (t : Tr) (m : Mv) : Tr :=
  (srt (step r R t.1 m).1, srt (step r S t.2.1 m).1, t.2.2 + (b2n (step r S t.2.1 m).2 : Nat) - (b2n (step r R t.1 m).2 : Nat))
def Worse (t : Tr) : Prop := t.2.2 < 0 ∨ (t.1.sum : Int) > (t.2.1.sum : Int) + t.2.2
instance (t : Tr) : Decidable (Worse t) := by unfold Worse; infer_instance
def ords (n : Nat) : Nat → List (List Nat)
  | 0 => [[]]
  | i + 1 => (ords n i).flatMap fun o => ((List.range n).filter fun k => decide (k ∉ o)).map fun k => o ++ [k]
def moves (n : Nat) : List Mv := (ords n n).map .come ++ (List.range n).map .done ++ [.still]
/-- lines of a hall; kept ones -/
def Vl (n r : Nat) (x : List Nat) : Prop := x.length = n ∧ ∀ b ∈ x, b ≤ r
def Ks (n r : Nat) (x : List Nat) : Prop := Vl n r x ∧ Dn x
def RlOk (n r : Nat) : Rl → Prop
  | .told ps => ps.length = (r + 1) ^ n ∧ ∀ p ∈ ps, p < n
  | _ => True
def void (n : Nat) : List Nat := List.replicate n 0
def tvoid (n : Nat) : Tr := (void n, void n, 0)

theorem ords_mem (n : Nat) : ∀ (i : Nat) (o : List Nat), o ∈ ords n i → o.length = i ∧ o.Nodup ∧ ∀ k ∈ o, k < n
  | 0, o, h => by
    simp [ords] at h
    subst h
    simp
  | i + 1, o, h => by
    simp only [ords, List.mem_flatMap, List.mem_map, List.mem_filter, List.mem_range, decide_eq_true_eq] at h
    obtain ⟨p, hp, k, ⟨hk, hn⟩, rfl⟩ := h
    obtain ⟨h1, h2, h3⟩ := ords_mem n i p hp
    refine ⟨by simp [h1], ?_, fun j hj => ?_⟩
    · rw [List.nodup_append]
      refine ⟨h2, by simp, fun a ha b hb e => ?_⟩
      simp at hb
      subst hb e
      exact hn ha
    · rcases List.mem_append.mp hj with hj | hj
      · exact h3 j hj
      · simp at hj; omega
theorem nodup_le {α : Type} [BEq α] [LawfulBEq α] : ∀ {l m : List α}, l.Nodup → (∀ a ∈ l, a ∈ m) → l.length ≤ m.length
  | [], _, _, _ => Nat.zero_le _
  | a :: l, m, hn, hs => by
    have h := List.nodup_cons.mp hn
    have ha : a ∈ m := hs a (List.mem_cons_self ..)
    have := nodup_le (l := l) (m := m.erase a) h.2 fun b hb => by
      have hne : b ≠ a := fun e => h.1 (e ▸ hb)
      exact (List.mem_erase_of_ne hne).mpr (hs b (List.mem_cons_of_mem _ hb))
    rw [List.length_erase_of_mem ha] at this
    have := List.length_pos_of_mem ha
    simp; omega
/-- an order names each line -/
theorem ord_all {n : Nat} {o : List Nat} (h : o ∈ ords n n) : ∀ k, k < n → k ∈ o := by
  obtain ⟨h1, h2, h3⟩ := ords_mem n n o h
  intro k hk
  apply Classical.byContradiction
  intro hn
  have := nodup_le (l := k :: o) (m := List.range n) (List.nodup_cons.mpr ⟨hn, h2⟩) fun a ha => by
    rcases List.mem_cons.mp ha with e | ha
    · subst e; simpa using hk
    · simpa using h3 a ha
  simp at this; omega
theorem ord_head {n : Nat} {o : List Nat} (hn : 0 < n) (h : o ∈ ords n n) : ∃ a p, o = a :: p := by
  obtain ⟨h1, _, _⟩ := ords_mem n n o h
  cases o with
  | nil => simp at h1; omega
  | cons a p => exact ⟨a, p, rfl⟩
theorem best_mem (x : List Nat) : ∀ (o : List Nat) (f : Nat), best x f o = f ∨ best x f o ∈ o
  | [], f => .inl rfl
  | k :: o, f => by
    rw [best]
    rcases best_mem x o (if x.getD k 0 < x.getD f 0 then k else f) with h | h
    · rw [h]
      split
      · exact .inr (List.mem_cons_self ..)
      · exact .inl rfl
    · exact .inr (List.mem_cons_of_mem _ h)
theorem best_le (x : List Nat) : ∀ (o : List Nat) (f : Nat), x.getD (best x f o) 0 ≤ x.getD f 0 ∧ ∀ k ∈ o, x.getD (best x f o) 0 ≤ x.getD k 0
  | [], f => ⟨Nat.le_refl _, fun k h => by cases h⟩
  | j :: o, f => by
    rw [best]
    obtain ⟨h1, h2⟩ := best_le x o (if x.getD j 0 < x.getD f 0 then j else f)
    constructor
    · refine Nat.le_trans h1 ?_
      split <;> omega
    · intro k hk
      rcases List.mem_cons.mp hk with e | hk
      · subst e
        refine Nat.le_trans h1 ?_
        split <;> omega
      · exact h2 k hk
theorem place_go (r : Nat) : ∀ (x : List Nat) (f k : Nat), (∀ b ∈ x, b ≤ r) → f < (r + 1) ^ k → x.foldl (fun f a => f * (r + 1) + a) f < (r + 1) ^ (k + x.length)
  | [], f, k, _, h => h
  | a :: x, f, k, hb, h => by
    have ha := hb a (List.mem_cons_self ..)
    have hp : f * (r + 1) + a < (r + 1) ^ (k + 1) := by
      rw [Nat.pow_succ]
      have : (f + 1) * (r + 1) ≤ (r + 1) ^ k * (r + 1) := Nat.mul_le_mul_right _ h
      rw [Nat.add_mul] at this
      omega
    have := place_go r x (f * (r + 1) + a) (k + 1) (fun b hb' => hb b (List.mem_cons_of_mem _ hb')) hp
    rw [List.length_cons, show k + (x.length + 1) = k + 1 + x.length by omega]
    exact this
theorem place_lt {n r : Nat} {x : List Nat} (h : Vl n r x) : place r x < (r + 1) ^ n := by
  have := place_go r x 0 0 h.2 (by simp)
  rw [Nat.zero_add, h.1] at this
  exact this
theorem getD_mem {o : List Nat} {i : Nat} (h : i < o.length) : o.getD i 0 ∈ o := List.mem_of_getElem? (some_of h)
theorem sent_lt {n r : Nat} {R : Rl} {x o : List Nat} (hn : 0 < n) (hR : RlOk n r R) (hx : Vl n r x) (ho : o ∈ ords n n) : sent r R x o < n := by
  obtain ⟨h1, h2, h3⟩ := ords_mem n n o ho
  have a0 : o.getD 0 0 < n := h3 _ (getD_mem (by omega))
  have hb : best x (o.getD 0 0) (o.drop 1) < n := by
    rcases best_mem x (o.drop 1) (o.getD 0 0) with e | e
    · rw [e]; exact a0
    · exact h3 _ (List.mem_of_mem_drop e)
  cases R with
  | random => exact a0
  | two =>
    show (if _ then _ else _) < n
    split
    · rename_i h; exact h3 _ (getD_mem h.1)
    · exact a0
  | least => exact hb
  | quick => exact hb
  | told ps =>
    have := place_lt hx
    exact hR.2 _ (getD_mem (by rw [hR.1]; exact this))
/-- by R the line is never longer than that to which S sends -/
def DomRl (n r : Nat) (R S : Rl) : Prop := ∀ x y o, Ks n r x → Ks n r y → o ∈ ords n n → x.getD (sent r R x o) 0 ≤ x.getD (sent r S y o) 0
theorem best_all {n : Nat} {x o : List Nat} (hn : 0 < n) (ho : o ∈ ords n n) {k : Nat} (hk : k < n) : x.getD (best x (o.getD 0 0) (o.drop 1)) 0 ≤ x.getD k 0 := by
  obtain ⟨a, p, rfl⟩ := ord_head hn ho
  have := best_le x p a
  show x.getD (best x a p) 0 ≤ _
  rcases List.mem_cons.mp (ord_all ho k hk) with e | e
  · subst e; exact this.1
  · exact this.2 k e
theorem dom_least {n r : Nat} {S : Rl} (hn : 0 < n) (hS : RlOk n r S) : DomRl n r .least S := fun x y o _ hy ho =>
  best_all hn ho (sent_lt hn hS hy.1 ho)
theorem dom_two {n r : Nat} : DomRl n r .two .random := fun x y o _ _ _ => by
  show x.getD (if _ then _ else _) 0 ≤ x.getD (o.getD 0 0) 0
  split
  · rename_i h; exact Nat.le_of_lt h.2
  · exact Nat.le_refl _

theorem comeAt_vl {n r : Nat} {x : List Nat} {c : Nat} (h : Vl n r x) (hc : c < n) : Vl n r (comeAt r x c).1 := by
  unfold comeAt
  split
  · exact h
  · rename_i h1
    refine ⟨by simp [h.1], fun b hb => ?_⟩
    have := h.2 _ (getD_mem (o := x) (i := c) (by rw [h.1]; exact hc))
    rcases List.mem_or_eq_of_mem_set hb with hb | hb
    · exact h.2 b hb
    · omega
theorem doneAt_vl {n r : Nat} {x : List Nat} {k : Nat} (h : Vl n r x) (hk : k < n) : Vl n r (doneAt x k) := by
  unfold doneAt
  split
  · refine ⟨by simp [h.1], fun b hb => ?_⟩
    have := h.2 _ (getD_mem (o := x) (i := k) (by rw [h.1]; exact hk))
    rcases List.mem_or_eq_of_mem_set hb with hb | hb
    · exact h.2 b hb
    · omega
  · exact h
theorem mv_cases {n : Nat} {m : Mv} (h : m ∈ moves n) : (∃ o, m = .come o ∧ o ∈ ords n n) ∨ (∃ k, m = .done k ∧ k < n) ∨ m = .still := by
  simp only [moves, List.mem_append, List.mem_map, List.mem_range, List.mem_singleton] at h
  rcases h with (⟨o, h, rfl⟩ | ⟨k, h, rfl⟩) | rfl
  · exact .inl ⟨o, rfl, h⟩
  · exact .inr (.inl ⟨k, rfl, h⟩)
  · exact .inr (.inr rfl)
theorem step_vl {n r : Nat} {R : Rl} {x : List Nat} {m : Mv} (hn : 0 < n) (hR : RlOk n r R) (h : Vl n r x) (hm : m ∈ moves n) : Vl n r (step r R x m).1 := by
  rcases mv_cases hm with ⟨o, rfl, ho⟩ | ⟨k, rfl, hk⟩ | rfl
  · exact comeAt_vl h (sent_lt hn hR h ho)
  · exact doneAt_vl h hk
  · exact h
theorem srt_ks {n r : Nat} {x : List Nat} (h : Vl n r x) : Ks n r (srt x) :=
  ⟨⟨by rw [srt_len]; exact h.1, fun b hb => h.2 b ((srt_perm x).mem_iff.mp hb)⟩, srt_dn x⟩
theorem void_ks (n r : Nat) : Ks n r (void n) := by
  refine ⟨⟨by simp [void], fun b hb => ?_⟩, ?_⟩
  · simp [void] at hb; omega
  · unfold Dn void
    exact List.pairwise_replicate.mpr (.inr (Nat.le_refl _))
theorem both_ks {n r : Nat} {R S : Rl} {t : Tr} {m : Mv} (hn : 0 < n) (hR : RlOk n r R) (hS : RlOk n r S) (h1 : Ks n r t.1) (h2 : Ks n r t.2.1) (hm : m ∈ moves n) : Ks n r (both r R S t m).1 ∧ Ks n r (both r R S t m).2.1 :=
  ⟨srt_ks (step_vl hn hR h1.1 hm), srt_ks (step_vl hn hS h2.1 hm)⟩

/-! ### what stands along all runs -/
structure Good (n r : Nat) (R S : Rl) (I : Tr → Prop) : Prop where
  start : I (tvoid n)
  move : ∀ t m, I t → m ∈ moves n → I (both r R S t m)
  well : ∀ t, I t → ¬ Worse t
def InvD (n r : Nat) (t : Tr) : Prop := Ks n r t.1 ∧ Ks n r t.2.1 ∧ ∃ l : Nat, t.2.2 = (l : Int) ∧ Dom t.1 t.2.1 l
theorem InvD.well {n r : Nat} {t : Tr} (h : InvD n r t) : ¬ Worse t := by
  obtain ⟨_, _, l, e, D⟩ := h
  have := D.sum
  unfold Worse
  omega
theorem good_dom {n r : Nat} {R S : Rl} (hn : 0 < n) (hR : RlOk n r R) (hS : RlOk n r S) (d : DomRl n r R S) : Good n r R S (InvD n r) := by
  refine ⟨⟨void_ks n r, void_ks n r, 0, rfl, fun t => Nat.le_refl _⟩, fun t m h hm => ?_, fun t h => h.well⟩
  obtain ⟨x, y, l⟩ := t
  obtain ⟨kx, ky, l, rfl, D⟩ := h
  obtain ⟨b1, b2⟩ := both_ks (t := (x, y, (l : Int))) hn hR hS kx ky hm
  refine ⟨b1, b2, ?_⟩
  simp only [] at kx ky D
  have hx := kx.1.1
  have hy := ky.1.1
  rcases mv_cases hm with ⟨o, rfl, ho⟩ | ⟨k, rfl, hk⟩ | rfl
  · obtain ⟨l', e, D'⟩ := dom_come (r := r) (c := sent r R x o) (a := sent r S y o) kx.2 ky.2 kx.1.2 ky.1.2 D (by rw [hx]; exact sent_lt hn hR kx.1 ho) (by rw [hy]; exact sent_lt hn hS ky.1 ho) (by rw [hx]; exact sent_lt hn hS ky.1 ho) (d x y o kx ky ho)
    exact ⟨l', by show (l : Int) + _ - _ = _; simp only [step]; omega, dom_perm (srt_perm _) (srt_perm _) D'⟩
  · exact ⟨l, by show (l : Int) + _ - _ = _; simp [step, b2n], dom_perm (srt_perm _) (srt_perm _) (dom_done kx.2 ky.2 D (by rw [hx]; exact hk) (by rw [hy]; exact hk))⟩
  · exact ⟨l, by show (l : Int) + _ - _ = _; simp [step, b2n], dom_perm (srt_perm _) (srt_perm _) D⟩
theorem good_self {n r : Nat} {R : Rl} : Good n r R R (fun t => t.1 = t.2.1 ∧ t.2.2 = 0) := by
  refine ⟨⟨rfl, rfl⟩, fun t m h _ => ?_, fun t h => ?_⟩
  · obtain ⟨x, y, l⟩ := t
    simp only [] at h
    obtain ⟨rfl, rfl⟩ := h
    exact ⟨rfl, by show (0 : Int) + (b2n (step r R x m).2 : Nat) - (b2n (step r R x m).2 : Nat) = 0; omega⟩
  · obtain ⟨x, y, l⟩ := t
    simp only [] at h
    obtain ⟨rfl, rfl⟩ := h
    unfold Worse
    simp
/-- what some run leads to -/
inductive Reach (n r : Nat) (R S : Rl) : Tr → Prop
  | start : Reach n r R S (tvoid n)
  | move {t : Tr} {m : Mv} (h : Reach n r R S t) (hm : m ∈ moves n) : Reach n r R S (both r R S t m)
theorem Good.reach {n r : Nat} {R S : Rl} {I : Tr → Prop} (g : Good n r R S I) {t : Tr} (h : Reach n r R S t) : I t := by
  induction h with
  | start => exact g.start
  | move h hm ih => exact g.move _ _ ih hm
theorem Reach.ks {n r : Nat} {R S : Rl} (hn : 0 < n) (hR : RlOk n r R) (hS : RlOk n r S) {t : Tr} (h : Reach n r R S t) : Ks n r t.1 ∧ Ks n r t.2.1 := by
  induction h with
  | start => exact ⟨void_ks n r, void_ks n r⟩
  | move h hm ih => exact both_ks hn hR hS ih.1 ih.2 hm

/-! ### papers -/
structure PaperOk (n r : Nat) (R S : Rl) (P : List Tr) : Prop where
  ks : ∀ t ∈ P, Ks n r t.1 ∧ Ks n r t.2.1 ∧ ¬ Worse t
  begins : tvoid n ∈ P
  closed : ∀ t ∈ P, ∀ m ∈ moves n, ∃ u ∈ P, u.1 = (both r R S t m).1 ∧ u.2.1 = (both r R S t m).2.1 ∧ u.2.2 ≤ (both r R S t m).2.2
def runs (r : Nat) (R S : Rl) (t : Tr) (ms : List Mv) : Tr := ms.foldl (both r R S) t
theorem both_swap (r : Nat) (R S : Rl) (t : Tr) (m : Mv) : both r S R (t.2.1, t.1, - t.2.2) m = ((both r R S t m).2.1, (both r R S t m).1, - (both r R S t m).2.2) := by
  unfold both
  simp only [Prod.mk.injEq, true_and]
  omega
theorem as_many {n r : Nat} {R S : Rl} {P : List Tr} (p : PaperOk n r R S P) (hn : 0 < n) (hR : RlOk n r R) (hS : RlOk n r S) (d : DomRl n r S R) {t : Tr} {ms : List Mv} (hm : ∀ m ∈ ms, m ∈ moves n)
    (h1 : ∃ u ∈ P, u.1 = t.1 ∧ u.2.1 = t.2.1 ∧ u.2.2 ≤ t.2.2) (h2 : InvD n r (t.2.1, t.1, - t.2.2)) :
    (∃ u ∈ P, u.1 = (runs r R S t ms).1 ∧ u.2.1 = (runs r R S t ms).2.1 ∧ u.2.2 ≤ (runs r R S t ms).2.2) ∧ InvD n r ((runs r R S t ms).2.1, (runs r R S t ms).1, - (runs r R S t ms).2.2) := by
  induction ms generalizing t with
  | nil => exact ⟨h1, h2⟩
  | cons m ms ih =>
    have hm0 := hm m (List.mem_cons_self ..)
    refine ih (t := both r R S t m) (fun m' h => hm m' (List.mem_cons_of_mem _ h)) ?_ ?_
    · obtain ⟨u, hu, e1, e2, e3⟩ := h1
      obtain ⟨v, hv, f1, f2, f3⟩ := p.closed u hu m hm0
      refine ⟨v, hv, ?_, ?_, ?_⟩
      · rw [f1]; unfold both; rw [e1]
      · rw [f2]; unfold both; rw [e2]
      · refine Int.le_trans f3 ?_
        unfold both
        simp only [e1, e2]
        omega
    · rw [← both_swap]
      exact (good_dom hn hS hR d).move _ m h2 hm0
/-- .. as many at each time -/
theorem as_many_at {n r : Nat} {R S : Rl} {P : List Tr} (p : PaperOk n r R S P) {t : Tr} (h1 : ∃ u ∈ P, u.1 = t.1 ∧ u.2.1 = t.2.1 ∧ u.2.2 ≤ t.2.2) (h2 : InvD n r (t.2.1, t.1, - t.2.2)) : t.2.2 = 0 ∧ t.1.sum = t.2.1.sum := by
  obtain ⟨u, hu, e1, e2, e3⟩ := h1
  obtain ⟨_, _, w⟩ := p.ks u hu
  obtain ⟨_, _, l, e, D⟩ := h2
  have s := D.sum
  unfold Worse at w
  rw [e1, e2] at w
  simp only [] at e s
  omega

/-! ### the search -/
abbrev Ky := List Nat × List Nat
abbrev Kn := List (Ky × Int)
structure Srch (n r : Nat) (R S : Rl) (L : List Tr) (M : Kn) : Prop where
  reach : ∀ t ∈ L, Reach n r R S t
  well : ∀ t ∈ L, ¬ Worse t
  key : ∀ e ∈ M, (e.1.1, e.1.2, e.2) ∈ L
  low : ∀ t ∈ L, ∃ e ∈ M, e.1 = (t.1, t.2.1) ∧ e.2 ≤ t.2.2
  ndM : (M.map (·.1)).Nodup
  ndL : L.Nodup
  begins : tvoid n ∈ L
  small : ∀ t ∈ L, t.2.2 + 1 ≤ M.length
/-- behind each of these moves from t a lead that is low enough is known -/
def Cl (r : Nat) (R S : Rl) (M : Kn) (t : Tr) (ms : List Mv) : Prop := ∀ m ∈ ms, ∃ e ∈ M, e.1 = ((both r R S t m).1, (both r R S t m).2.1) ∧ e.2 ≤ (both r R S t m).2.2
/-- M' knows all that M does, as low -/
def Lower (M M' : Kn) : Prop := ∀ e ∈ M, ∃ e' ∈ M', e'.1 = e.1 ∧ e'.2 ≤ e.2
theorem Lower.refl (M : Kn) : Lower M M := fun e h => ⟨e, h, rfl, Int.le_refl _⟩
theorem Lower.trans {M N O : Kn} (a : Lower M N) (b : Lower N O) : Lower M O := fun e h => by
  obtain ⟨f, hf, e1, e2⟩ := a e h
  obtain ⟨g, hg, f1, f2⟩ := b f hf
  exact ⟨g, hg, f1.trans e1, Int.le_trans f2 e2⟩
theorem Cl.lower {r : Nat} {R S : Rl} {M M' : Kn} {t : Tr} {ms : List Mv} (h : Cl r R S M t ms) (l : Lower M M') : Cl r R S M' t ms := fun m hm => by
  obtain ⟨e, he, e1, e2⟩ := h m hm
  obtain ⟨f, hf, f1, f2⟩ := l e he
  exact ⟨f, hf, f1.trans e1, Int.le_trans f2 e2⟩
def look (M : Kn) (k : Ky) : Option Int := (M.find? fun e => decide (e.1 = k)).map (·.2)
def putM (M : Kn) (k : Ky) (v : Int) : Kn := if (M.any fun e => decide (e.1 = k)) = true then M.map fun e => if e.1 = k then (e.1, v) else e else M ++ [(k, v)]
theorem look_some {M : Kn} {k : Ky} {v : Int} (h : look M k = some v) : (k, v) ∈ M := by
  unfold look at h
  obtain ⟨e, he, rfl⟩ := Option.map_eq_some_iff.mp h
  have h1 := List.mem_of_find?_eq_some he
  have h2 := List.find?_some he
  have : e.1 = k := of_decide_eq_true h2
  subst this
  exact h1
theorem look_none {M : Kn} {k : Ky} (h : look M k = none) : ∀ e ∈ M, e.1 ≠ k := by
  unfold look at h
  rw [Option.map_eq_none_iff, List.find?_eq_none] at h
  intro e he q
  exact h e he (decide_eq_true q)
theorem nd_uniq {M : Kn} (h : (M.map (·.1)).Nodup) {k : Ky} {a b : Int} (ha : (k, a) ∈ M) (hb : (k, b) ∈ M) : a = b := by
  induction M with
  | nil => cases ha
  | cons e M ih =>
    rw [List.map_cons, List.nodup_cons] at h
    rcases List.mem_cons.mp ha with e1 | e1
    · rcases List.mem_cons.mp hb with e2 | e2
      · rw [← e1] at e2; exact (Prod.mk.inj e2).2.symm
      · exact absurd (List.mem_map.mpr ⟨_, e2, by rw [← e1]⟩) h.1
    · rcases List.mem_cons.mp hb with e2 | e2
      · exact absurd (List.mem_map.mpr ⟨_, e1, by rw [← e2]⟩) h.1
      · exact ih h.2 e1 e2
theorem look_of {M : Kn} (h : (M.map (·.1)).Nodup) {k : Ky} {v : Int} (hm : (k, v) ∈ M) : look M k = some v := by
  cases e : look M k with
  | none => exact absurd rfl (look_none e _ hm)
  | some u => rw [nd_uniq h hm (look_some e)]
theorem putM_new {M : Kn} {k : Ky} (v : Int) (h : look M k = none) : putM M k v = M ++ [(k, v)] := by
  unfold putM
  rw [if_neg]
  rw [List.any_eq_true]
  rintro ⟨e, he, q⟩
  exact look_none h e he (of_decide_eq_true q)
theorem putM_old {M : Kn} {k : Ky} {u : Int} (v : Int) (h : look M k = some u) : putM M k v = M.map fun e => if e.1 = k then (e.1, v) else e := by
  unfold putM
  rw [if_pos]
  rw [List.any_eq_true]
  exact ⟨_, look_some h, decide_eq_true rfl⟩
theorem putM_keys {M : Kn} {k : Ky} {u : Int} (v : Int) (h : look M k = some u) : (putM M k v).map (·.1) = M.map (·.1) := by
  rw [putM_old v h, List.map_map]
  apply List.map_congr_left
  intro e _
  simp only [Function.comp]
  split <;> rfl
theorem Srch.init {n r : Nat} {R S : Rl} : Srch n r R S [tvoid n] [((void n, void n), 0)] := by
  refine ⟨fun t h => ?_, fun t h => ?_, fun e h => ?_, fun t h => ?_, by simp, by simp, by simp, fun t h => ?_⟩
  all_goals (simp at h; subst h)
  · exact .start
  · unfold Worse tvoid; simp
  · simp [tvoid]
  · exact ⟨_, List.mem_singleton.mpr rfl, rfl, Int.le_refl _⟩
  · simp [tvoid]
/-- met, as the program does it -/
def metL (L : List Tr) (M : Kn) (t : Tr) : List Tr := if look M (t.1, t.2.1) = none ∨ t.2.2 < (look M (t.1, t.2.1)).getD 0 then L ++ [t] else L
def metM (M : Kn) (t : Tr) : Kn := if look M (t.1, t.2.1) = none ∨ t.2.2 < (look M (t.1, t.2.1)).getD 0 then putM M (t.1, t.2.1) t.2.2 else M
theorem met_ok {n r : Nat} {R S : Rl} {L : List Tr} {M : Kn} {t : Tr} {m : Mv} (h : Srch n r R S L M) (ht : t ∈ L) (hm : m ∈ moves n) (hw : ¬ Worse (both r R S t m)) :
    Srch n r R S (metL L M (both r R S t m)) (metM M (both r R S t m)) ∧ Lower M (metM M (both r R S t m)) ∧ Cl r R S (metM M (both r R S t m)) t [m] := by
  have hb : (both r R S t m).2.2 ≤ t.2.2 + 1 := by
    show t.2.2 + ((b2n _ : Nat) : Int) - ((b2n _ : Nat) : Int) ≤ _
    have h1 : ∀ b, b2n b ≤ 1 := by intro b; cases b <;> simp [b2n]
    have := h1 (step r S t.2.1 m).2
    omega
  have hre : Reach n r R S (both r R S t m) := .move (h.reach t ht) hm
  have hs := h.small t ht
  unfold metL metM Cl
  generalize hu : both r R S t m = u at *
  obtain ⟨x, y, l⟩ := u
  simp only [] at *
  cases e : look M (x, y) with
  | none =>
    rw [if_pos (.inl rfl), if_pos (.inl rfl)]
    rw [putM_new l e]
    have hn := look_none e
    have hnL : (x, y, l) ∉ L := fun q => by
      obtain ⟨f, hf, f1, _⟩ := h.low _ q
      exact hn f hf f1
    refine ⟨⟨fun v hv => ?_, fun v hv => ?_, fun f hf => ?_, fun v hv => ?_, ?_, ?_, List.mem_append_left _ h.begins, fun v hv => ?_⟩, fun f hf => ⟨f, List.mem_append_left _ hf, rfl, Int.le_refl _⟩, fun m' hm' => ?_⟩
    · rcases List.mem_append.mp hv with hv | hv
      · exact h.reach v hv
      · simp at hv; subst hv; exact hre
    · rcases List.mem_append.mp hv with hv | hv
      · exact h.well v hv
      · simp at hv; subst hv; exact hw
    · rcases List.mem_append.mp hf with hf | hf
      · exact List.mem_append_left _ (h.key f hf)
      · simp at hf; subst hf; simp
    · rcases List.mem_append.mp hv with hv | hv
      · obtain ⟨f, hf, f1, f2⟩ := h.low v hv
        exact ⟨f, List.mem_append_left _ hf, f1, f2⟩
      · simp at hv; subst hv
        exact ⟨((x, y), l), by simp, rfl, Int.le_refl _⟩
    · rw [List.map_append, List.nodup_append]
      refine ⟨h.ndM, by simp, fun a ha b hb q => ?_⟩
      simp at hb
      obtain ⟨f, hf, rfl⟩ := List.mem_map.mp ha
      exact hn f hf (q.trans hb)
    · rw [List.nodup_append]
      refine ⟨h.ndL, by simp, fun a ha b hb q => ?_⟩
      simp at hb
      subst hb q
      exact hnL ha
    · rw [List.length_append, List.length_singleton]
      rcases List.mem_append.mp hv with hv | hv
      · have := h.small v hv; omega
      · simp at hv; subst hv; simp only []; omega
    · simp at hm'; subst hm'
      refine ⟨((x, y), l), by simp, ?_, ?_⟩
      · rw [hu]
      · rw [hu]; exact Int.le_refl _
  | some k =>
    have hk := look_some e
    by_cases c : l < k
    · rw [if_pos (.inr (by simpa using c)), if_pos (.inr (by simpa using c))]
      have hkeys := putM_keys l e
      have hmem : ∀ f ∈ putM M (x, y) l, f = ((x, y), l) ∨ f ∈ M := fun f hf => by
        rw [putM_old l e] at hf
        obtain ⟨g, hg, rfl⟩ := List.mem_map.mp hf
        split
        · rename_i q; exact .inl (by rw [q])
        · exact .inr hg
      have hin : ((x, y), l) ∈ putM M (x, y) l := by
        rw [putM_old l e]
        exact List.mem_map.mpr ⟨_, hk, by simp⟩
      have hlow : Lower M (putM M (x, y) l) := fun f hf => by
        by_cases q : f.1 = (x, y)
        · refine ⟨_, hin, q.symm, ?_⟩
          have : f.2 = k := nd_uniq h.ndM (k := (x, y)) (by rw [← q]; exact hf) hk
          show l ≤ f.2
          omega
        · refine ⟨f, ?_, rfl, Int.le_refl _⟩
          rw [putM_old l e]
          exact List.mem_map.mpr ⟨f, hf, by rw [if_neg q]⟩
      have hlen : (putM M (x, y) l).length = M.length := by rw [putM_old l e, List.length_map]
      have hnL : (x, y, l) ∉ L := fun q => by
        obtain ⟨f, hf, f1, f2⟩ := h.low _ q
        have : f.2 = k := nd_uniq h.ndM (k := (x, y)) (by rw [← f1]; exact hf) hk
        simp only [] at f2
        omega
      refine ⟨⟨fun v hv => ?_, fun v hv => ?_, fun f hf => ?_, fun v hv => ?_, ?_, ?_, List.mem_append_left _ h.begins, fun v hv => ?_⟩, hlow, fun m' hm' => ?_⟩
      · rcases List.mem_append.mp hv with hv | hv
        · exact h.reach v hv
        · simp at hv; subst hv; exact hre
      · rcases List.mem_append.mp hv with hv | hv
        · exact h.well v hv
        · simp at hv; subst hv; exact hw
      · rcases hmem f hf with rfl | hf
        · simp
        · exact List.mem_append_left _ (h.key f hf)
      · rcases List.mem_append.mp hv with hv | hv
        · obtain ⟨f, hf, f1, f2⟩ := h.low v hv
          obtain ⟨g, hg, g1, g2⟩ := hlow f hf
          exact ⟨g, hg, g1.trans f1, Int.le_trans g2 f2⟩
        · simp at hv; subst hv
          exact ⟨_, hin, rfl, Int.le_refl _⟩
      · rw [hkeys]; exact h.ndM
      · rw [List.nodup_append]
        refine ⟨h.ndL, by simp, fun a ha b hb q => ?_⟩
        simp at hb
        subst hb q
        exact hnL ha
      · rw [hlen]
        rcases List.mem_append.mp hv with hv | hv
        · exact h.small v hv
        · simp at hv; subst hv
          have := h.small _ (h.key _ hk)
          simp only [] at this ⊢
          omega
      · simp at hm'; subst hm'
        rw [hu]
        exact ⟨_, hin, rfl, Int.le_refl _⟩
    · have c' : ¬ (some k = none ∨ l < (some k).getD 0) := by
        rintro (q | q)
        · cases q
        · exact c q
      rw [if_neg c', if_neg c']
      refine ⟨h, Lower.refl M, fun m' hm' => ?_⟩
      simp at hm'; subst hm'
      rw [hu]
      exact ⟨_, hk, rfl, by simp only []; omega⟩
/-- all known is a paper -/
theorem Srch.paper {n r : Nat} {R S : Rl} {L : List Tr} {M : Kn} (hn : 0 < n) (hR : RlOk n r R) (hS : RlOk n r S) (h : Srch n r R S L M) (hc : ∀ t ∈ L, Cl r R S M t (moves n)) {P : List Tr} (hP : P.Perm (M.map fun e => (e.1.1, e.1.2, e.2))) : PaperOk n r R S P := by
  have mem : ∀ t, t ∈ P → ∃ e ∈ M, t = (e.1.1, e.1.2, e.2) := fun t ht => by
    obtain ⟨e, he, q⟩ := List.mem_map.mp (hP.mem_iff.mp ht)
    exact ⟨e, he, q.symm⟩
  have inP : ∀ e ∈ M, (e.1.1, e.1.2, e.2) ∈ P := fun e he => hP.mem_iff.mpr (List.mem_map.mpr ⟨e, he, rfl⟩)
  refine ⟨fun t ht => ?_, ?_, fun t ht m hm => ?_⟩
  · obtain ⟨e, he, rfl⟩ := mem t ht
    have hL := h.key e he
    have := (h.reach _ hL).ks hn hR hS
    exact ⟨this.1, this.2, h.well _ hL⟩
  · obtain ⟨e, he, e1, e2⟩ := h.low _ h.begins
    have w := h.well _ (h.key e he)
    have e3 : e.2 = 0 := by
      unfold Worse at w
      simp only [tvoid] at e2 w
      omega
    have : tvoid n = (e.1.1, e.1.2, e.2) := by rw [e1, e3]; rfl
    rw [this]
    exact inP e he
  · obtain ⟨e, he, rfl⟩ := mem t ht
    obtain ⟨f, hf, f1, f2⟩ := hc _ (h.key e he) m hm
    exact ⟨_, inP f hf, by rw [f1], by rw [f1], f2⟩

/-! ### how long the search may be -/
def lins (r : Nat) : Nat → List (List Nat)
  | 0 => [[]]
  | n + 1 => (lins r n).flatMap fun x => (List.range (r + 1)).map fun k => x ++ [k]
theorem lins_len (r : Nat) : ∀ n, (lins r n).length = (r + 1) ^ n
  | 0 => rfl
  | n + 1 => by
    rw [lins, List.length_flatMap]
    simp only [List.length_map, List.length_range]
    rw [List.map_const', List.sum_replicate_nat, lins_len r n, Nat.pow_succ]
theorem lins_mem {r : Nat} : ∀ {n : Nat} {x : List Nat}, x ∈ lins r n ↔ Vl n r x
  | 0, x => by
    simp only [lins, List.mem_singleton]
    constructor
    · rintro rfl; exact ⟨rfl, by simp⟩
    · intro h; exact List.length_eq_zero_iff.mp h.1
  | n + 1, x => by
    simp only [lins, List.mem_flatMap, List.mem_map, List.mem_range]
    constructor
    · rintro ⟨y, hy, k, hk, rfl⟩
      have := lins_mem.mp hy
      refine ⟨by simp [this.1], fun b hb => ?_⟩
      rcases List.mem_append.mp hb with hb | hb
      · exact this.2 b hb
      · simp at hb; omega
    · intro h
      have hne : x ≠ [] := fun q => by rw [q] at h; have := h.1; simp at this
      refine ⟨x.dropLast, lins_mem.mpr ⟨by simp [h.1], fun b hb => h.2 b (List.dropLast_subset x hb)⟩, x.getLast hne, ?_, List.dropLast_concat_getLast hne⟩
      have := h.2 _ (List.getLast_mem hne)
      omega
def pairs2 {α β : Type} (a : List α) (b : List β) : List (α × β) := a.flatMap fun x => b.map fun y => (x, y)
theorem pairs2_len {α β : Type} (a : List α) (b : List β) : (pairs2 a b).length = a.length * b.length := by
  unfold pairs2
  rw [List.length_flatMap]
  simp only [List.length_map]
  rw [List.map_const', List.sum_replicate_nat]
theorem pairs2_mem {α β : Type} {a : List α} {b : List β} {p : α × β} (h1 : p.1 ∈ a) (h2 : p.2 ∈ b) : p ∈ pairs2 a b :=
  List.mem_flatMap.mpr ⟨p.1, h1, List.mem_map.mpr ⟨p.2, h2, rfl⟩⟩
theorem Srch.lenM {n r : Nat} {R S : Rl} {L : List Tr} {M : Kn} (hn : 0 < n) (hR : RlOk n r R) (hS : RlOk n r S) (h : Srch n r R S L M) (h27 : (r + 1) ^ n ≤ 27) : M.length ≤ 729 := by
  have := nodup_le (l := M.map (·.1)) (m := pairs2 (lins r n) (lins r n)) h.ndM fun k hk => by
    obtain ⟨e, he, rfl⟩ := List.mem_map.mp hk
    have := (h.reach _ (h.key e he)).ks hn hR hS
    exact pairs2_mem (lins_mem.mpr this.1.1) (lins_mem.mpr this.2.1)
  rw [List.length_map, pairs2_len, lins_len] at this
  exact Nat.le_trans this (Nat.mul_le_mul h27 h27)
theorem Srch.lenL {n r : Nat} {R S : Rl} {L : List Tr} {M : Kn} (hn : 0 < n) (hR : RlOk n r R) (hS : RlOk n r S) (h : Srch n r R S L M) (h27 : (r + 1) ^ n ≤ 27) : L.length ≤ 600000 := by
  have hM := h.lenM hn hR hS h27
  have := nodup_le (l := L) (m := pairs2 (lins r n) (pairs2 (lins r n) ((List.range 730).map Int.ofNat))) h.ndL fun t ht => by
    have := (h.reach _ ht).ks hn hR hS
    have hs := h.small t ht
    have hw := h.well t ht
    refine pairs2_mem (lins_mem.mpr this.1.1) (pairs2_mem (lins_mem.mpr this.2.1) (List.mem_map.mpr ⟨t.2.2.toNat, List.mem_range.mpr ?_, ?_⟩))
    · omega
    · unfold Worse at hw
      show (t.2.2.toNat : Int) = t.2.2
      omega
  rw [pairs2_len, pairs2_len, lins_len, List.length_map, List.length_range] at this
  have a : (r + 1) ^ n * 730 ≤ 27 * 730 := Nat.mul_le_mul_right _ h27
  have b : (r + 1) ^ n * ((r + 1) ^ n * 730) ≤ 27 * (27 * 730) := Nat.mul_le_mul h27 a
  omega
end K58
set_option Elab.async false
set_option linter.all false
set_option maxRecDepth 100000
set_option maxHeartbeats 4000000
/-! rules that the layer has not: sum, min, max, sorted(reverse=True) of a tuple; not in of a tuple of data; a tuple times 1 -/
namespace L2
open PySem PySem.Spec PyProof.Rows
theorem kx_reads_ints {h : Heap} : ∀ {its : List Value} {ns : List Int}, IntsAre its ns → ∃ as, ReadsAll h its (ns.map PyData.int) as := by
  intro its ns hi
  induction hi with
  | nil => exact ⟨_, ReadsAll.nil⟩
  | cons n t r ih =>
    obtain ⟨as, q⟩ := ih
    exact ⟨_, ReadsAll.cons (Reads.int n t) q⟩
theorem kx_alike_ints (ns : List Int) : PySem.W.AlikeAll (ns.map PyData.int) := by
  refine ⟨fun x hx y hy => ?_, fun x hx => ?_⟩
  · obtain ⟨i, _, rfl⟩ := List.mem_map.mp hx
    obtain ⟨j, _, rfl⟩ := List.mem_map.mp hy
    rfl
  · obtain ⟨i, _, rfl⟩ := List.mem_map.mp hx
    exact fun q => nomatch q
theorem kx_min_fold : ∀ (ns : List Int) (n : Int), ns.foldl min n ∈ n :: ns ∧ ∀ y ∈ n :: ns, ns.foldl min n ≤ y
  | [], n => ⟨List.mem_singleton.mpr rfl, fun y hy => by simp at hy; subst hy; exact Int.le_refl _⟩
  | a :: ns, n => by
    obtain ⟨h1, h2⟩ := kx_min_fold ns (min n a)
    rw [List.foldl_cons]
    constructor
    · rcases List.mem_cons.mp h1 with e | e
      · rw [e]
        by_cases c : n ≤ a
        · rw [Int.min_eq_left c]; simp
        · rw [Int.min_eq_right (by omega)]; simp
      · simp [e]
    · intro y hy
      have h3 := h2 (min n a) (List.mem_cons_self ..)
      have h4 : min n a ≤ n := Int.min_le_left _ _
      have h5 : min n a ≤ a := Int.min_le_right _ _
      rcases List.mem_cons.mp hy with e | hy
      · subst e; omega
      · rcases List.mem_cons.mp hy with e | hy
        · subst e; omega
        · exact h2 y (List.mem_cons_of_mem _ hy)
theorem kx_max_fold : ∀ (ns : List Int) (n : Int), ns.foldl max n ∈ n :: ns ∧ ∀ y ∈ n :: ns, y ≤ ns.foldl max n
  | [], n => ⟨List.mem_singleton.mpr rfl, fun y hy => by simp at hy; subst hy; exact Int.le_refl _⟩
  | a :: ns, n => by
    obtain ⟨h1, h2⟩ := kx_max_fold ns (max n a)
    rw [List.foldl_cons]
    constructor
    · rcases List.mem_cons.mp h1 with e | e
      · rw [e]
        by_cases c : n ≤ a
        · rw [Int.max_eq_right c]; simp
        · rw [Int.max_eq_left (by omega)]; simp
      · simp [e]
    · intro y hy
      have h3 := h2 (max n a) (List.mem_cons_self ..)
      have h4 : n ≤ max n a := Int.le_max_left _ _
      have h5 : a ≤ max n a := Int.le_max_right _ _
      rcases List.mem_cons.mp hy with e | hy
      · subst e; omega
      · rcases List.mem_cons.mp hy with e | hy
        · subst e; omega
        · exact h2 y (List.mem_cons_of_mem _ hy)
theorem kx_depth_ints : ∀ (ns : List Int), PyData.depthAll (ns.map PyData.int) = 0 := PySem.W.depth_ints
section
variable {X : Cx}
/-- sum(t), min(t), max(t) of a tuple of ints -/
def rSumT (K : PySem.W.Frag) : List V → Hp → VK → Prop := fun vs H Q => ∃ (a : Addr) (ns : List Int), vs = [V.ref a] ∧ SqT K H a (ns.map V.int) ∧ Q (.int ns.sum) H
def rMinT (K : PySem.W.Frag) : List V → Hp → VK → Prop := fun vs H Q => ∃ (a : Addr) (ns : List Int), vs = [V.ref a] ∧ SqT K H a (ns.map V.int) ∧ ns ≠ [] ∧ ∀ m, m ∈ ns → (∀ y, y ∈ ns → m ≤ y) → Q (.int m) H
def rMaxT (K : PySem.W.Frag) : List V → Hp → VK → Prop := fun vs H Q => ∃ (a : Addr) (ns : List Int), vs = [V.ref a] ∧ SqT K H a (ns.map V.int) ∧ ns ≠ [] ∧ ∀ m, m ∈ ns → (∀ y, y ∈ ns → y ≤ m) → Q (.int m) H
theorem cr_sumT (hc : X.calm = true) : CallR X (.builtin "sum") (rSumT X.K) := by
  intro pins s σ H vs us Q I r h
  obtain ⟨a, ns, rfl, hs, q⟩ := h
  obtain ⟨its, rv, hl, _⟩ := I.tuple hs
  rw [Vals.ref1 r]
  have hi := rv.ints
  obtain ⟨xs, e⟩ := hi.allInts.items
  have hn : numsOf (intItems xs).toList = ns := by rw [← e]; exact hi.numsOf
  rw [nums_intItems] at hn
  obtain ⟨o, ho, hcl, n, hd⟩ := hl
  refine PySem.W.ktm_sumG (xs := xs) (I.ok.hd hc) ⟨o, ho, hcl, n, by rw [← e]; exact hd⟩ fun h' tk t' hk => ?_
  rw [preSum_eq, List.take_of_length_le (by simp), hn]
  exact ⟨.int _, H, I.kept hk, ⟨_, rfl⟩, q⟩
theorem cr_minT (hc : X.calm = true) (hu : X.A.units + 1 < cLine) : CallR X (.builtin "min") (rMinT X.K) := by
  intro pins s σ H vs us Q I r h
  obtain ⟨a, ns, rfl, hs, hne, q⟩ := h
  obtain ⟨its, rv, hl, _⟩ := I.tuple hs
  rw [Vals.ref1 r]
  obtain ⟨as, ra⟩ := kx_reads_ints (h := s.heap) rv.ints
  cases ns with
  | nil => exact absurd rfl hne
  | cons n ns =>
    obtain ⟨o, ho, hcl, k, hd⟩ := hl
    refine PySem.W.min_tuple_data (I.ok.hd hc) ⟨o, ho, hcl, k, hd⟩ (x := .int n) (xs := ns.map .int) ra (kx_alike_ints (n :: ns)) (by rw [show PyData.depthAll (PyData.int n :: ns.map PyData.int) = 0 from kx_depth_ints (n :: ns)]; exact hu) fun i v h' tk bs hi hr hk => ?_
    rw [PySem.W.minD_ints] at hr
    obtain ⟨h1, h2⟩ := kx_min_fold ns n
    cases hr with
    | int _ t => exact ⟨.int _, H, I.kept hk, ⟨t, rfl⟩, q _ h1 h2⟩
theorem cr_maxT (hc : X.calm = true) (hu : X.A.units + 1 < cLine) : CallR X (.builtin "max") (rMaxT X.K) := by
  intro pins s σ H vs us Q I r h
  obtain ⟨a, ns, rfl, hs, hne, q⟩ := h
  obtain ⟨its, rv, hl, _⟩ := I.tuple hs
  rw [Vals.ref1 r]
  obtain ⟨as, ra⟩ := kx_reads_ints (h := s.heap) rv.ints
  cases ns with
  | nil => exact absurd rfl hne
  | cons n ns =>
    obtain ⟨o, ho, hcl, k, hd⟩ := hl
    refine PySem.W.max_tuple_data (I.ok.hd hc) ⟨o, ho, hcl, k, hd⟩ (x := .int n) (xs := ns.map .int) ra (kx_alike_ints (n :: ns)) (by rw [show PyData.depthAll (PyData.int n :: ns.map PyData.int) = 0 from kx_depth_ints (n :: ns)]; exact hu) fun i v h' tk bs hi hr hk => ?_
    rw [PySem.W.maxD_ints] at hr
    obtain ⟨h1, h2⟩ := kx_max_fold ns n
    cases hr with
    | int _ t => exact ⟨.int _, H, I.kept hk, ⟨t, rfl⟩, q _ h1 h2⟩
/-- x not in t, t a tuple of data -/
def rNotInT (K : PySem.W.Frag) : R2 := fun x y H Q => ∃ d ds, Dp K H x d ∧ Dp K H y (.tuple ds) ∧ SeqAt.shaped d = true ∧ PyData.canLayAll0 ds = true ∧ Q (.bl (!ds.any fun z => PyData.eqv z d)) H
theorem op_notInT (hu : X.A.units + 65 < cLine) : OpR X (compareOp .NotIn) (rNotInT X.K) := by
  intro pins s σ H x y v u Q I rx ry h
  obtain ⟨d, ds, hd, he, sd, se, q⟩ := h
  obtain ⟨as, r1⟩ := Dp.reads I d x v hd rx
  obtain ⟨bs, r2⟩ := Dp.reads I (.tuple ds) y u he ry
  exact SeqAt.notIn_tuple_reads r2 r1 se (SeqAt.canLay_of_shaped sd) (room_in_shaped sd hu) ⟨.bl _, H, I, rfl, q⟩
end
end L2
set_option Elab.async false
set_option linter.all false
set_option maxRecDepth 100000
set_option maxHeartbeats 4000000
namespace L2
open PySem PySem.Spec PyProof.Rows
theorem kx_tuple_mul1 (l : Addr) (items : Array Value) (n : Nat) (dd : Option Addr) (sl : Array (Option Value)) (u : Tok) :
    Meets (Builtin.«tuple.__mul__» ⟨[.ref l, .int 1 u], []⟩) (fun _ R s => s.heap.get? l = some { cls := .type "tuple", dict := dd, data := .seq items n, slots := sl } ∧ R (.ok (.ret (Value.ref l))) s) :=
  .of_wp fun prog w A R s h => by
    obtain ⟨hp, g, d, tk, os⟩ := s
    obtain ⟨hl, h⟩ := h
    have f1 := AutoSeq1.idx_int
    have hT : Shared.TypeIs ⟨hp, g, d, tk, os⟩ (.ref l) "tuple" := ⟨_, hl, rfl⟩
    wp_walk using wpAny_loadPart' hl, wpAny_typeOf hT
    exact ⟨_, rfl, h⟩
section
variable {X : Cx}
theorem kx_ex_new {H : Hp} {p : Addr} {o : HO} (h : H p = none) : Evl.Ex H (upd H p o) := Evl.Ex.new h
/-- t * k, k from 1 on -/
def rRepA (K : PySem.W.Frag) : R2 := fun x y H Q => ∃ l k xs, x = .ref l ∧ y = .int k ∧ SqT K H l xs ∧ xs ≠ [] ∧ 1 ≤ k ∧ k ≤ 1000 ∧ xs.length ≤ 1000 ∧
  ∀ p H', Evl.Ex H H' → SqT K H' p (List.replicate k.toNat xs).flatten → Q (.ref p) H'
theorem op_repA : OpR X (binaryOp .Mult) (rRepA X.K) := by
  intro pins s σ H x y v u Q I rx ry h
  obtain ⟨l, k, xs, rfl, rfl, hT, hne, h1, h2, hz, q⟩ := h
  by_cases hk : k = 1
  · subst hk
    cases rx
    obtain ⟨t, rfl⟩ := ry
    obtain ⟨its, r, ⟨⟨cls, dd, data, sl⟩, ho, hc, n, hd⟩, hs⟩ := I.tuple hT
    simp only at hc hd
    subst hc hd
    refine wpAny_binaryOp_repeat_ref (T := "tuple") (U := "int") (by decide) ⟨_, ho, rfl⟩ (fun s' => typeIs_int s' 1 t) noFill_tuple_mul F.fills_int_mul F.slot_int_rmul repeat_tuple F.slot_int_index.lookup
      (call_meets F.slot_int_rmul (typeIs_int s 1 t) F.entry_int_rmul (F.args_int_rmul_2 _ _) (int_rmul_tuple 1 t l its.toArray n dd sl)
        ⟨ho, rfl, ⟨_, ho, rfl⟩, call_meets F.slot_tuple_mul ⟨_, ho, rfl⟩ F.entry_tuple_mul (F.args_tuple_mul_2 _ _) (kx_tuple_mul1 l its.toArray n dd sl t) ⟨ho, ?_⟩⟩)
    exact ⟨.ref l, H, I, rfl, q l H (Evl.Ex.refl H) (by simpa using hT)⟩
  · exact op_repT pins s σ H _ _ v u Q I rx ry ⟨l, k, xs, rfl, rfl, hT, hne, by omega, h2, hz, fun p hp => q p _ (Evl.Ex.new hp) (SqT.of upd_same)⟩
/-- sorted(t, reverse=True) of a tuple of ints -/
def rSortTR (K : PySem.W.Frag) : List V → List V → Hp → VK → Prop := fun vs zs H Q => ∃ (a : Addr) (ns : List Int), vs = [V.ref a] ∧ zs = [.bl true] ∧ SqT K H a (ns.map V.int) ∧
  ∀ p, H p = none → Q (.ref p) (upd H p (.lst ((ns.mergeSort fun a b => decide (b ≤ a)).map V.int)))
theorem kx_each_ints {h : Heap} : ∀ {its : List Value} {ns : List Int}, IntsAre its ns → PySem.W.EachIs (fun v (b : Int) => ∃ t, v = Value.int b t) its ns := by
  intro its ns hi
  induction hi with
  | nil => exact .nil
  | cons n t r ih => exact .cons ⟨t, rfl⟩ ih
theorem kx_ints_each {its : List Value} {ns : List Int} (h : PySem.W.EachIs (fun v (b : Int) => ∃ t, v = Value.int b t) its ns) : Vals (ns.map V.int) its := by
  induction h with
  | nil => exact .nil
  | cons e r ih => exact .cons e ih
theorem kx_each_mono {α β : Type} {R S : α → β → Prop} {as : List α} {bs : List β} (h : PySem.W.EachIs R as bs) (f : ∀ a b, R a b → S a b) : PySem.W.EachIs S as bs := by
  induction h with
  | nil => exact .nil
  | cons e r ih => exact .cons (f _ _ e) ih
theorem cr_sortTR (hu : X.A.units + 4 < cLine) : CallRK X (.builtin "sorted") [Str.ofString "reverse"] (rSortTR X.K) := by
  intro pins s σ H vs zs us ws Q I r rz h
  obtain ⟨a, ns, rfl, rfl, hs, q⟩ := h
  obtain rfl := Vals.ref1 r
  obtain ⟨w1, rfl, e1⟩ := vals1 rz
  obtain rfl : w1 = Value.bool true := e1
  obtain ⟨its, rv, ⟨o, ho, hcl, n, hd⟩, hz⟩ := I.tuple hs
  have hi := rv.ints
  have hz' : its.length ≤ sizeLine := by rw [← rv.length]; exact hz
  refine PyProof.Rows.call_function_entry_kw PyProof.Rows.kind_sorted PyProof.Rows.plain_sorted PyProof.Rows.entry_sorted (PyProof.Rows.args_sorted_rev _ _) ?_
  unfold Builtin.«sorted»
  refine wpAny_bind (m := checkCount "sorted" 1 1 _) (wpAny_pure ?_)
  refine wpAny_bind (wpAny_collect_seq (hsz := by rw [List.size_toArray]; exact hz') a (.inr rfl) ho hcl hd fun h' hk => ?_)
  have I1 : Inv X pins σ H { s with heap := h' } := I.kept (t' := s.toks) hk
  refine wpAny_bind (wpAny_newList ?_ hz')
  have hoL : (h'.push (seqObj "list" its.toArray 0)).get? h'.objs.size = some (seqObj "list" its.toArray 0) := Heap.get?_push_size _ rfl
  show wpAny _ _ _ _ _ { s with heap := h'.push (seqObj "list" its.toArray 0) }
  have ei := kx_each_ints (h := h') hi
  refine wpAny_bind (wpAny_holding (PySem.W.list_sort_rev_data (s := { s with heap := h'.push (seqObj "list" its.toArray 0) }) (b := true) (enc := fun b : Int => PyData.int b) hoL ei
    (kx_each_mono ei fun v b e => by obtain ⟨t, rfl⟩ := e; exact ⟨_, Reads.int b t, fun z => by cases z⟩) (PySem.W.AllAlike.of fun _ _ => rfl) (PySem.W.Sortable.others fun b => ⟨(fun z => nomatch z), (fun _ z => nomatch z)⟩)
    (by rw [← hi.length]; exact hz') (fun b _ => by show X.A.units + 1 + 1 + 0 < _; omega) fun out hlo eo => ?_))
  rw [PySem.W.dataGe_int] at eo
  obtain ⟨ep, he'⟩ := PyProof.Rows.sortedHeap_at (vs := its) (out := out.toArray) hoL
  have hold : ∀ b o, h'.get? b = some o → (sortedHeap (h'.push (seqObj "list" its.toArray 0)) h'.objs.size its out.toArray).get? b = some o := fun b o q => by
    have hlt := Heap.lt_size q
    unfold sortedHeap
    rw [Heap.get?_update_ne _ _ _ _ (Nat.ne_of_lt hlt), Heap.get?_push_ne _ _ _ (by rw [size_push', Heap.size_update, size_push']; exact Nat.ne_of_lt (Nat.lt_succ_of_lt (Nat.lt_succ_of_lt hlt))), Heap.get?_push_ne _ _ _ (by rw [Heap.size_update, size_push']; exact Nat.ne_of_lt (Nat.lt_succ_of_lt hlt)), Heap.get?_update_ne _ _ _ _ (Nat.ne_of_lt hlt)]
    exact Heap.get?_push_of_some _ q
  have hlen : (((ns.mergeSort fun a b => decide (b ≤ a)).map V.int)).length ≤ sizeLine := by
    rw [List.length_map, List.length_mergeSort, ← hi.length]; exact hz'
  have hn : H h'.objs.size = none := I1.hok.fresh (Nat.le_refl _)
  refine wpAny_pure ⟨_, rfl, .ref _, _, I1.laid (a := h'.objs.size) (o := .lst ((ns.mergeSort fun a b => decide (b ≤ a)).map V.int)) (t' := s.toks) hold (Nat.le_refl _) ⟨hlen, out, ep, kx_ints_each eo, he'⟩, rfl, q _ hn⟩
end
end L2
set_option autoImplicit false
set_option Elab.async false
set_option linter.all false
set_option maxRecDepth 100000
set_option maxHeartbeats 4000000
/-! a dict whose keys are pairs of rows of numbers, its values rowV -/
namespace K58
open PySem PySem.Spec PyProof.Rows L2
theorem kx_Dict_pairsH {prog : Program} {w : World} {A : Around} {E : Value → Shared → Prop} {s : Shared} {K : Type} [DecidableEq K] {knd : HeapKind prog w K} {env : Env} {keys : List (Option Expr)} {values : List Expr} {pos : Pos} {pairs : List (Sem Value × Sem Value)} {Q : Value → Shared → Prop} (hu : knd.room A)
    (hshape : (evalEachOpt keys env).zip ((evalEach values env).map fun v => do let x ← v; standAt pos; pure x) = pairs.map fun p => (some p.1, p.2)) (h0 : pairs ≠ []) (hlen : pairs.length ≤ 15)
    (h : wpAny (model prog w) A (evalPairs pairs) (fun vs s₁ => ∃ ps, CarriesH knd s₁.heap vs ps ∧ s₁.heap.DictOfH knd s.heap.objs.size [] ∧
      ∀ h' tk, h'.DictOfH knd s.heap.objs.size (storedAllH [] ps) → Heap.SameBut s.heap.objs.size s₁.heap h' → Q (.ref s.heap.objs.size) { s₁ with heap := h', toks := tk }) E
      { s with heap := s.heap.push { cls := .type "dict", data := .dict #[] } }) :
    wpAny (model prog w) A (eval (.Dict keys values pos) env) Q E s := by
  rw [arm_eval_Dict, hshape, dictDisplay_pairs pairs h0 (by omega)]
  exact wpAny_bind (wpAny_standAt (wpAny_bind (wpAny_subDictH (knd := knd) (Q := fun d s' => wpAny (model prog w) A (pure (Value.ref d)) Q E s') hu hlen
    (wpAny_mono h (fun vs s₁ h₁ => by obtain ⟨ps, hc, hm, hq⟩ := h₁; exact ⟨ps, hc, hm, fun h' tk a b => wpAny_pure (hq h' tk a b)⟩) fun _ _ e => e))))
/-! ### keys -/
def nrow (x : List Nat) : NestedKey := .tup (x.map fun n : Nat => .num (n : Int))
def nk (k : Ky) : NestedKey := .tup [nrow k.1, nrow k.2]
theorem nums_inj : ∀ {x y : List Nat}, (x.map fun n : Nat => NestedKey.num (n : Int)) = (y.map fun n : Nat => NestedKey.num (n : Int)) → x = y
  | [], [], _ => rfl
  | [], _ :: _, h => by simp at h
  | _ :: _, [], h => by simp at h
  | a :: x, b :: y, h => by
    rw [List.map_cons, List.map_cons] at h
    injection h with h1 h2
    injection h1 with h1
    rw [nums_inj h2, Int.ofNat.inj h1]
theorem nrow_inj {x y : List Nat} (h : nrow x = nrow y) : x = y := by
  unfold nrow at h
  injection h with h
  exact nums_inj h
theorem nk_inj {k l : Ky} (h : nk k = nk l) : k = l := by
  unfold nk at h
  injection h with h
  injection h with h1 h2
  injection h2 with h2 _
  exact Prod.ext (nrow_inj h1) (nrow_inj h2)
theorem depth_nums : ∀ x : List Nat, NestedKey.depthAll (x.map fun n : Nat => NestedKey.num (n : Int)) = 0
  | [] => by simp [NestedKey.depthAll]
  | a :: x => by
    rw [List.map_cons, NestedKey.depthAll, depth_nums x]
    simp [NestedKey.depth]
theorem depth_nk (k : Ky) : (nk k).depth ≤ 8 := by
  unfold nk nrow
  simp only [NestedKey.depth, NestedKey.depthAll, depth_nums]
  decide
def rowV (x : List Nat) : List V := x.map fun n : Nat => V.int (n : Int)
/-- at a stands the pair of the rows k -/
def KeyAt (K : PySem.W.Frag) (H : Hp) (a : Addr) (k : Ky) : Prop := ∃ b c, SqT K H a [.ref b, .ref c] ∧ SqT K H b (rowV k.1) ∧ SqT K H c (rowV k.2)
theorem KeyAt.ex {K : PySem.W.Frag} {H H' : Hp} {a : Addr} {k : Ky} (e : Evl.Ex H H') (h : KeyAt K H a k) : KeyAt K H' a k := by
  obtain ⟨b, c, h1, h2, h3⟩ := h
  exact ⟨b, c, Evl.ex_t e h1, Evl.ex_t e h2, Evl.ex_t e h3⟩
theorem nested_nums {h : Heap} : ∀ {x : List Nat} {us : List Value}, Vals (rowV x) us → NestedAll h (x.map fun n : Nat => .num (n : Int)) us
  | [], us, r => by cases r; exact .nil
  | a :: x, us, r => by
    cases r with
    | cons r1 r2 =>
      obtain ⟨t, rfl⟩ := r1
      exact .cons (.int _ t) (nested_nums r2)
section
variable {X : Cx} {pins : List (Addr × Obj)} {σ : L2.St} {H : Hp} {s : Shared}
theorem row_is (I : Inv X pins σ H s) {b : Addr} {x : List Nat} (h : SqT X.K H b (rowV x)) : NestedIs s.heap (nrow x) (.ref b) := by
  obtain ⟨its, r, ⟨o, ho, hc, n, hd⟩, _⟩ := I.tuple h
  exact .tup ho hc hd (nested_nums r)
theorem key_is (I : Inv X pins σ H s) {a : Addr} {k : Ky} (h : KeyAt X.K H a k) : (nestedKind X.prog X.w).is s.heap (nk k) a := by
  obtain ⟨b, c, h1, h2, h3⟩ := h
  obtain ⟨its, r, ⟨o, ho, hc, n, hd⟩, _⟩ := I.tuple h1
  refine ⟨.tup ho hc hd ?_, depth_nk k⟩
  cases r with
  | cons r1 r2 =>
    cases r2 with
    | cons r3 r4 =>
      cases r4
      cases r1
      cases r3
      exact .cons (row_is I h2) (.cons (row_is I h3) .nil)
end
/-! ### entries -/
abbrev En := List (Ky × Addr × Int)
def kn (es : En) : Kn := es.map fun e => (e.1, e.2.2)
def putE (es : En) (k : Ky) (a : Addr) (v : Int) : En := if (look (kn es) k).isSome = true then es.map fun e => if e.1 = k then (e.1, e.2.1, v) else e else es ++ [(k, a, v)]
abbrev ERel : En → List (NestedKey × Addr × Value) → Prop := Paired fun e y => y.1 = nk e.1 ∧ y.2.1 = e.2.1 ∧ RelV (.int e.2.2) y.2.2
theorem look_cons (e : Ky × Int) (M : Kn) (k : Ky) : look (e :: M) k = if e.1 = k then some e.2 else look M k := by
  unfold look
  rw [List.find?_cons]
  by_cases h : e.1 = k
  · rw [decide_eq_true h, if_pos h]; rfl
  · rw [decide_eq_false h, if_neg h]
theorem atKey_cons (y : NestedKey × Addr × Value) (ys : List (NestedKey × Addr × Value)) (k : NestedKey) : atKey (y :: ys) k = if y.1 = k then some y.2 else atKey ys k := by
  unfold atKey
  rw [List.find?_cons]
  by_cases h : y.1 = k
  · rw [decide_eq_true h, if_pos h]; rfl
  · rw [decide_eq_false h, if_neg h]
theorem ERel.erNone {es : En} {ys : List (NestedKey × Addr × Value)} {k : Ky} (r : ERel es ys) (h : look (kn es) k = none) : atKey ys (nk k) = none := by
  induction r with
  | nil => rfl
  | @cons e y es ys q t ih =>
    obtain ⟨q1, q2, q3⟩ := q
    have h' : look ((e.1, e.2.2) :: kn es) k = none := h
    rw [look_cons] at h'
    by_cases c : e.1 = k
    · rw [if_pos c] at h'; cases h'
    · rw [if_neg c] at h'
      rw [atKey_cons, if_neg (fun z => c (nk_inj (q1.symm.trans z)))]
      exact ih h'
theorem ERel.erSome {es : En} {ys : List (NestedKey × Addr × Value)} {k : Ky} {v : Int} (r : ERel es ys) (h : look (kn es) k = some v) : ∃ a u, atKey ys (nk k) = some (a, u) ∧ RelV (.int v) u := by
  induction r with
  | nil => cases h
  | @cons e y es ys q t ih =>
    obtain ⟨q1, q2, q3⟩ := q
    have h' : look ((e.1, e.2.2) :: kn es) k = some v := h
    rw [look_cons] at h'
    rw [atKey_cons]
    by_cases c : e.1 = k
    · rw [if_pos c] at h'
      rw [if_pos (by rw [q1, c])]
      cases h'
      exact ⟨_, _, rfl, q3⟩
    · rw [if_neg c] at h'
      rw [if_neg (fun z => c (nk_inj (q1.symm.trans z)))]
      exact ih h'
theorem ERel.erIs {es : En} {ys : List (NestedKey × Addr × Value)} (k : Ky) (r : ERel es ys) : (atKey ys (nk k)).isSome = (look (kn es) k).isSome := by
  cases h : look (kn es) k with
  | none => rw [r.erNone h]; rfl
  | some v =>
    obtain ⟨a, u, e, _⟩ := r.erSome h
    rw [e]
    rfl
theorem ERel.repl {es : En} {ys : List (NestedKey × Addr × Value)} {v : Int} {u : Value} (k : Ky) (r : ERel es ys) (rv : RelV (.int v) u) : ERel (es.map fun e => if e.1 = k then (e.1, e.2.1, v) else e) (ys.map (putAt (nk k) u)) := by
  induction r with
  | nil => exact .nil
  | @cons e y es ys q t ih =>
    rw [List.map_cons, List.map_cons]
    refine .cons ?_ ih
    obtain ⟨q1, q2, q3⟩ := q
    unfold putAt
    by_cases c : e.1 = k
    · rw [if_pos c, if_pos (by rw [q1, c])]
      exact ⟨q1, q2, rv⟩
    · rw [if_neg c, if_neg (fun z => c (nk_inj (q1.symm.trans z)))]
      exact ⟨q1, q2, q3⟩
theorem ERel.erPut {es : En} {ys : List (NestedKey × Addr × Value)} {v : Int} {u : Value} (k : Ky) (a : Addr) (r : ERel es ys) (rv : RelV (.int v) u) : ERel (putE es k a v) (storedH ys (nk k) a u) := by
  unfold putE storedH
  rw [r.erIs k]
  split
  · exact r.repl k rv
  · exact Paired.snoc r ⟨rfl, rfl, rv⟩
theorem kn_put (es : En) (k : Ky) (a : Addr) (v : Int) : kn (putE es k a v) = putM (kn es) k v := by
  unfold putE putM
  have e : ((kn es).any fun e => decide (e.1 = k)) = (look (kn es) k).isSome := by
    unfold look
    rw [Option.isSome_map]
    cases h : (kn es).find? fun e => decide (e.1 = k) with
    | none =>
      rw [List.find?_eq_none] at h
      rw [Option.isSome_none, List.any_eq_false]
      exact h
    | some z =>
      rw [Option.isSome_some, List.any_eq_true]
      exact ⟨z, List.mem_of_find?_eq_some h, by simpa using List.find?_some h⟩
  rw [e]
  split
  · unfold kn
    rw [List.map_map, List.map_map]
    apply List.map_congr_left
    intro x _
    simp only [Function.comp]
    split <;> rfl
  · unfold kn
    rw [List.map_append]
    rfl
theorem put_len (es : En) (k : Ky) (a : Addr) (v : Int) : (putE es k a v).length ≤ es.length + 1 := by
  unfold putE
  split
  · rw [List.length_map]; omega
  · simp
theorem put_keys {K : PySem.W.Frag} {H : Hp} {es : En} {k : Ky} {a : Addr} {v : Int} (h : ∀ e ∈ es, KeyAt K H e.2.1 e.1) (ha : KeyAt K H a k) : ∀ e ∈ putE es k a v, KeyAt K H e.2.1 e.1 := by
  intro e he
  unfold putE at he
  split at he
  · obtain ⟨f, hf, rfl⟩ := List.mem_map.mp he
    split
    · exact h f hf
    · exact h f hf
  · rcases List.mem_append.mp he with he | he
    · exact h e he
    · simp at he; subst he; exact ha
/-! ### the dict -/
def NDφ (P : Program) (w : World) (D : Addr) (es : En) : Heap → Prop := fun h => (D == sysModules) = false ∧ es.length ≤ sizeLine ∧ (es.map (·.1)).Nodup ∧ ∃ o ds ep ys, h.get? D = some o ∧ o.ExactDict ∧ o.data = .dict ds ep ∧ ds.toList = ys.map (entryOfKey (nestedKind P w)) ∧ ERel es ys
def NdAt (P : Program) (w : World) (K : PySem.W.Frag) (H : Hp) (D : Addr) (es : En) : Prop := H D = some (.ext (NDφ P w D es)) ∧ ∀ e ∈ es, KeyAt K H e.2.1 e.1
theorem erel_nodup {es : En} {ys : List (NestedKey × Addr × Value)} (r : ERel es ys) (h : (es.map (·.1)).Nodup) : (ys.map (·.1)).Nodup := by
  have e : ys.map (·.1) = (es.map (·.1)).map nk := by
    clear h
    induction r with
    | nil => rfl
    | @cons e y es ys q t ih => rw [List.map_cons, List.map_cons, List.map_cons, q.1, ih]
  rw [e]
  exact List.Pairwise.map nk (fun a b h z => h (nk_inj z)) h
theorem erel_back {es : En} {ys : List (NestedKey × Addr × Value)} (r : ERel es ys) (h : (ys.map (·.1)).Nodup) : (es.map (·.1)).Nodup := by
  have e : ys.map (·.1) = (es.map (·.1)).map nk := by
    clear h
    induction r with
    | nil => rfl
    | @cons e y es ys q t ih => rw [List.map_cons, List.map_cons, List.map_cons, q.1, ih]
  rw [e] at h
  exact List.Pairwise.of_map nk (fun a b z q => z (congrArg nk q)) h
theorem nd_ok {P : Program} {w : World} {H : Hp} {h : Heap} {D : Addr} {es : En} (h0 : NDφ P w D es h) : ObjOk P w H h D (.ext (NDφ P w D es)) := by
  refine ⟨h0, ?_, ?_⟩
  · obtain ⟨_, _, _, o, ds, ep, ys, ho, _⟩ := h0
    exact ⟨o, ho⟩
  · rintro h1 h2 ⟨a, b, c, o, ds, ep, ys, ho, r⟩ k
    exact ⟨a, b, c, o, ds, ep, ys, k o ho, r⟩
section
variable {X : Cx} {pins : List (Addr × Obj)} {σ : L2.St} {H : Hp} {s : Shared} {D a : Addr} {es : En} {k : Ky} {A : Around} {E : Value → Shared → Prop}
theorem nd_of (I : Inv X pins σ H s) (h : NdAt X.prog X.w X.K H D es) : (D == sysModules) = false ∧ es.length ≤ sizeLine ∧ ∃ ys, ERel es ys ∧ s.heap.DictOfH (nestedKind X.prog X.w) D ys := by
  obtain ⟨⟨a, b, c, o, ds, ep, ys, h1, h2, h3, h4, r⟩, _⟩ := (show ObjOk X.prog X.w H s.heap D (.ext (NDφ X.prog X.w D es)) from I.hok _ _ h.1)
  refine ⟨a, b, ys, r, o, ds, ep, h1, h2, h3, h4, ?_, erel_nodup r c⟩
  have all : ∀ {l : En} {m : List (NestedKey × Addr × Value)}, ERel l m → (∀ e ∈ l, KeyAt X.K H e.2.1 e.1) → ∀ x ∈ m, (nestedKind X.prog X.w).is s.heap x.1 x.2.1 := by
    intro l m q
    induction q with
    | nil => intro _ x hx; cases hx
    | @cons e y l m hq t ih =>
      intro hk x hx
      rcases List.mem_cons.mp hx with z | hx
      · subst z
        rw [hq.1, hq.2.1]
        exact key_is I (hk e (List.mem_cons_self ..))
      · exact ih (fun e he => hk e (List.mem_cons_of_mem _ he)) x hx
  exact all r h.2
theorem nd_typeIs (I : Inv X pins σ H s) (h : NdAt X.prog X.w X.K H D es) : s.TypeIs (.ref D) "dict" := by
  obtain ⟨_, _, ys, _, dd⟩ := nd_of I h
  exact dd.typeIs
/-- behind a store -/
theorem NdAt.stored {P : Program} {w : World} {K : PySem.W.Frag} {v : Int} (h : NdAt P w K H D es) (ha : KeyAt K H a k) : NdAt P w K (upd H D (.ext (NDφ P w D (putE es k a v)))) D (putE es k a v) := by
  refine ⟨upd_same, fun e he => ?_⟩
  have key := put_keys h.2 ha e he
  have st : ∀ b xs, SqT K H b xs → SqT K (upd H D (.ext (NDφ P w D (putE es k a v)))) b xs := fun b xs q => by
    rcases q with (q | ⟨o, q⟩) | q
    · exact .inl (.inl (by rw [upd_ne (ne_of q h.1 (fun z => nomatch z))]; exact q))
    · exact .inl (.inr ⟨o, by rw [upd_ne (ne_of q h.1 (fun z => nomatch z))]; exact q⟩)
    · exact .inr q
  obtain ⟨b, c, h1, h2, h3⟩ := key
  exact ⟨b, c, st _ _ h1, st _ _ h2, st _ _ h3⟩
theorem nd_setItem {v : Int} {u : Value} {Q : Unit → Shared → Prop} (hu : A.units + 10 < cLine) (I : Inv X pins σ H s) (h : NdAt X.prog X.w X.K H D es) (ha : KeyAt X.K H a k) (hl : es.length < sizeLine) (rv : RelV (.int v) u)
    (q : ∀ s', Inv X pins σ (upd H D (.ext (NDφ X.prog X.w D (putE es k a v)))) s' → Q () s') : wpAny (model X.prog X.w) A (setItem (.ref D) (.ref a) u) Q E s := by
  obtain ⟨hd, hz, ys, r, dd⟩ := nd_of I h
  refine wpAny_setItem_heap (hsz := by rw [← Paired.length r]; exact hz) (show A.units + 1 + 8 < cLine by omega) (key_is I ha) dd fun h' dd' hs => q _ ?_
  obtain ⟨o, ds, ep, hq, h2, h3, h4, _, h5⟩ := dd'
  have r' := r.erPut (v := v) k a rv
  have hl' : (putE es k a v).length ≤ sizeLine := by have := put_len es k a v; omega
  exact d_write I (by rw [h.1]; exact True.intro) hs ⟨o, hq⟩ (nd_ok ⟨hd, hl', erel_back r' h5, o, ds, ep, _, hq, h2, h3, h4, r'⟩)
/-- d[k], there -/
def rIxN (P : Program) (w : World) (K : PySem.W.Frag) : R2 := fun x y H Q => ∃ (D : Addr) (es : En) (a : Addr) (k : Ky) (v : Int), x = .ref D ∧ y = .ref a ∧ NdAt P w K H D es ∧ KeyAt K H a k ∧ look (kn es) k = some v ∧ Q (.int v) H
theorem nd_getItem {v : Int} {Q : Value → Shared → Prop} (hu : A.units + 10 < cLine) (I : Inv X pins σ H s) (h : NdAt X.prog X.w X.K H D es) (ha : KeyAt X.K H a k) (hv : look (kn es) k = some v)
    (q : ∀ w' s', Inv X pins σ H s' → RelV (.int v) w' → Q w' s') : wpAny (model X.prog X.w) A (getItem (.ref D) (.ref a)) Q E s := by
  obtain ⟨hd, hz, ys, r, dd⟩ := nd_of I h
  obtain ⟨b, u, e, ru⟩ := r.erSome hv
  exact wpAny_getItem_heap (show A.units + 1 + 8 < cLine by omega) (key_is I ha) dd e (q u _ (I.tok _) ru)
def rInN (P : Program) (w : World) (K : PySem.W.Frag) : R2 := fun x y H Q => ∃ (D : Addr) (es : En) (a : Addr) (k : Ky), x = .ref a ∧ y = .ref D ∧ NdAt P w K H D es ∧ KeyAt K H a k ∧ Q (.bl (look (kn es) k).isSome) H
def rNotInN (P : Program) (w : World) (K : PySem.W.Frag) : R2 := fun x y H Q => ∃ (D : Addr) (es : En) (a : Addr) (k : Ky), x = .ref a ∧ y = .ref D ∧ NdAt P w K H D es ∧ KeyAt K H a k ∧ Q (.bl (!(look (kn es) k).isSome)) H
theorem op_notInN (hu : X.A.units + 10 < cLine) : OpR X (compareOp .NotIn) (rNotInN X.prog X.w X.K) := by
  intro pins s σ H x y v u Q I rx ry h
  obtain ⟨D, es, a, k, rfl, rfl, hD, ha, q⟩ := h
  cases rx
  cases ry
  obtain ⟨hd, hz, ys, r, dd⟩ := nd_of I hD
  refine wpAny_notIn_heap (show X.A.units + 1 + 8 < cLine by omega) (key_is I ha) hd dd ?_
  rw [r.erIs k]
  exact ⟨.bl _, H, I.tok _, rfl, q⟩
def tSubN (P : Program) (w : World) (K : PySem.W.Frag) (td ty : TE) : TE := fun σ H Q => td σ H fun x H1 => ty σ H1 fun y H2 => rIxN P w K x y H2 Q
theorem pe_subN {o i : Expr} {td ty : TE} {pos : Pos} (hu : X.A.units + 10 < cLine) (ho : PE X o td) (hi : PE X i ty) (hs : NoSl i) : PE X (.Subscript o i pos) (tSubN X.prog X.w X.K td ty) := by
  refine ⟨fun pins s σ H Q I h => ?_⟩
  refine subD_of PySem.F.slot_dict_getitem.lookup hs (thn (ho.run pins s σ H _ I h) fun u s1 ⟨x, H1, I1, rx, q1⟩ => thn (hi.run pins s1 σ H1 _ I1 q1) fun iv s2 ⟨y, H2, I2, ry, D, es, a, k, v, ex, ey, hD, ha, hv, q2⟩ => ?_)
  subst ex ey
  cases rx
  cases ry
  exact ⟨nd_typeIs I2 hD, nd_getItem hu I2 hD ha hv fun w' s3 I3 rw' => ⟨.int v, H2, I3, rw', q2⟩⟩
/-- d[k] = v -/
def rSetN (P : Program) (w : World) (K : PySem.W.Frag) : TSet := fun o i v H Q => ∃ (D : Addr) (es : En) (a : Addr) (k : Ky) (z : Int), o = .ref D ∧ i = .ref a ∧ v = .int z ∧ NdAt P w K H D es ∧ KeyAt K H a k ∧ es.length < sizeLine ∧ Q (upd H D (.ext (NDφ P w D (putE es k a z))))
theorem set_N (hu : X.A.units + 10 < cLine) : PSet X (rSetN X.prog X.w X.K) := by
  intro pins s σ H o i v ov iv u Q I ro ri rv h
  obtain ⟨D, es, a, k, z, rfl, rfl, rfl, hD, ha, hl, q⟩ := h
  cases ro
  cases ri
  exact nd_setItem hu I hD ha hl rv fun s' I' => ⟨_, I', q⟩
/-- d.get(k, z) -/
def tGetN (P : Program) (w : World) (K : PySem.W.Frag) (td ty tx : TE) : TE := fun σ H Q => td σ H fun x H1 => (∃ (D : Addr) (es : En), x = .ref D ∧ NdAt P w K H1 D es) ∧ ty σ H1 fun y H2 => tx σ H2 fun z H3 => ∃ (D : Addr) (es : En) (a : Addr) (k : Ky) (i : Int), x = .ref D ∧ y = .ref a ∧ z = .int i ∧ NdAt P w K H3 D es ∧ KeyAt K H3 a k ∧ Q (.int ((look (kn es) k).getD i)) H3
theorem pe_getN {o e f : Expr} {apos cpos : Pos} {td ty tx : TE} (hu : X.A.units + 10 < cLine) (ho : PE X o td) (he : PE X e ty) (hf : PE X f tx) (m : M2 X o "get" apos e f cpos) : PE X (.Call (.Attribute o "get" apos) [e, f] [] cpos) (tGetN X.prog X.w X.K td ty tx) := by
  refine ⟨fun pins s σ H Q I h => ?_⟩
  refine wpAny_Call_method m.base m.few m.line PySem.F.plainAttrs_dict PySem.F.slot_dict_get PySem.F.type_dict_get (thn (ho.run pins s σ H _ I h) fun u s1 ⟨x, H1, I1, rx, ⟨D, es, ex, hD⟩, q1⟩ => ?_)
  subst ex
  cases rx
  have t1 := nd_typeIs I1 hD
  have t2 : ∀ b, Value.ref D = .ref b → ∃ ob, s1.heap.get? b = some ob ∧ ob.dict = none := fun b q => by
    cases q
    obtain ⟨_, _, ys, _, ob, _, _, h1, h2, _⟩ := nd_of I1 hD
    exact ⟨ob, h1, h2.2.1⟩
  refine ⟨t1, t2, ?_⟩
  rw [m.trees]
  refine Calls.callWith_builtin rfl (Calls.evalArgs_plain (Calls.spliced_cons (thn (he.run pins s1 σ H1 _ I1 q1) fun iv s2 ⟨y, H2, I2, ry, q2⟩ =>
    Calls.spliced_cons (thn (hf.run pins s2 σ H2 _ I2 q2) fun fv s3 ⟨z, H3, I3, rz, D', es', a, k, i, eD, ey, ez, hD', ha, q3⟩ => Calls.spliced_nil ?_))))
  subst ey ez
  cases eD
  cases ry
  obtain ⟨hd, hz, ys, r, dd⟩ := nd_of I3 hD'
  refine call_meetsIn PySem.F.slot_dict_get dd.typeIs PySem.F.entry_dict_get (PySem.F.args_dict_get_3 _ _ _) (meetsH_dict_get_default (nestedKind X.prog X.w) D a hd fv) ⟨(show X.A.units + 1 + 8 < cLine by omega), nk k, ys, key_is I3 ha, dd, _, H3, I3.tok _, ?_, q3⟩
  cases hv : look (kn es') k with
  | none => rw [r.erNone hv]; exact rz
  | some v =>
    obtain ⟨b, u, e, ru⟩ := r.erSome hv
    rw [e]
    exact ru
/-- {} -/
def tNewN (P : Program) (w : World) : TE := fun _ H Q => ∀ p, H p = none → Q (.ref p) (upd H p (.ext (NDφ P w p [])))
theorem nd_empty (P : Program) (w : World) (h : Heap) (hb : sysModules < h.objs.size) : NDφ P w h.objs.size [] (h.push { cls := .type "dict", data := .dict #[] }) :=
  ⟨beq_eq_false_iff_ne.mpr (Ne.symm (Nat.ne_of_lt hb)), Nat.zero_le _, List.nodup_nil, _, #[], 0, [], Heap.get?_push_size _ rfl, ⟨rfl, rfl, rfl⟩, rfl, rfl, .nil⟩
theorem pe_newN {pos : Pos} : PE X (.Dict [] [] pos) (tNewN X.prog X.w) := ⟨fun pins s σ H Q I h =>
  wpAny_Dict_empty ⟨.ref s.heap.objs.size, _, I.laid (a := s.heap.objs.size) (o := .ext (NDφ X.prog X.w s.heap.objs.size [])) (t' := s.toks) (fun _ _ q => Heap.get?_push_of_some _ q) (Nat.le_refl _) (nd_ok (nd_empty _ _ s.heap I.big)), rfl, h _ (I.hok.fresh (Nat.le_refl _))⟩⟩
/-- {k: v}, one pair -/
def tDispN (P : Program) (w : World) (K : PySem.W.Frag) (tk tv : TE) : TE := fun σ H Q => ∀ p, H p = none → tk σ (upd H p (.ext (NDφ P w p []))) fun x H1 => tv σ H1 fun y H2 =>
  H2 p = some (.ext (NDφ P w p [])) ∧ ∃ (a : Addr) (k : Ky) (v : Int), x = .ref a ∧ y = .int v ∧ KeyAt K H2 a k ∧ Q (.ref p) (upd H2 p (.ext (NDφ P w p [(k, a, v)])))
theorem pe_dispN {k v : Expr} {pos : Pos} {tk tv : TE} (hu : X.A.units + 10 < cLine) (hk : PE X k tk) (hv : PE X v tv) : PE X (.Dict [some k] [v] pos) (tDispN X.prog X.w X.K tk tv) := by
  refine ⟨fun pins s σ H Q I q => ?_⟩
  have hn := I.hok.fresh (Nat.le_refl s.heap.objs.size)
  have I1 := I.laid (a := s.heap.objs.size) (o := .ext (NDφ X.prog X.w s.heap.objs.size [])) (h' := s.heap.push { cls := .type "dict", data := .dict #[] }) (t' := s.toks) (fun _ _ q => Heap.get?_push_of_some _ q) (Nat.le_refl _) (nd_ok (nd_empty _ _ s.heap I.big))
  refine kx_Dict_pairsH (knd := nestedKind X.prog X.w) (pairs := pairTrees [some k] [v] X.env pos) (show X.A.units + 8 < cLine by omega) (zip_pairTrees _ _ _ _ rfl rfl) (fun z => by have := pairTrees_length [some k] [v] X.env pos rfl rfl; rw [z] at this; cases this) (by rw [pairTrees_length _ _ _ _ rfl rfl]; simp) ?_
  refine pairTrees_cons_walk (thn (hk.run pins _ σ _ _ I1 (q _ hn)) fun u s1 ⟨x, H1, J1, rx, q1⟩ => thn (hv.run pins s1 σ H1 _ J1 q1) fun w2 s2 ⟨y, H2, I2, ry, hp, a, kk, z, ex, ey, ha, q2⟩ => pairTrees_nil_walk ?_)
  subst ex ey
  cases rx
  have hD : NdAt X.prog X.w X.K H2 s.heap.objs.size [] := ⟨hp, fun e he => by cases he⟩
  obtain ⟨hd, hz, ys, r, dd⟩ := nd_of I2 hD
  cases r
  refine ⟨[(nk kk, a, w2)], ⟨rfl, rfl, key_is I2 ha, trivial⟩, dd, fun h' tk dd' hs => ⟨.ref s.heap.objs.size, _, ?_, rfl, q2⟩⟩
  obtain ⟨o, ds, ep, hq, h2, h3, h4, h5, h6⟩ := dd'
  exact d_write I2 (by rw [hp]; exact True.intro) hs ⟨o, hq⟩ (nd_ok ⟨hd, (by rw [sizeLine_eq]; simp), by simp, o, ds, ep, _, hq, h2, h3, h4, .cons ⟨rfl, rfl, ry⟩ .nil⟩)
end
end K58
set_option Elab.async false
set_option linter.all false
set_option maxRecDepth 100000
set_option maxHeartbeats 4000000
set_option autoImplicit false
/-! sorted of such a dict; data of rows -/
namespace K58
open PySem PySem.Spec PyProof.Rows L2
def dRow (x : List Nat) : PyData := .tuple (x.map fun n : Nat => .int (n : Int))
def dKy (k : Ky) : PyData := .tuple [dRow k.1, dRow k.2]
theorem reads_nums {h : Heap} : ∀ {x : List Nat} {us : List Value}, Vals (rowV x) us → ReadsAll h us (x.map fun n : Nat => PyData.int (n : Int)) []
  | [], us, r => by cases r; exact .nil
  | a :: x, us, r => by
    cases r with
    | cons r1 r2 =>
      obtain ⟨t, rfl⟩ := r1
      exact ReadsAll.cons (as := []) (bs := []) (.int _ t) (reads_nums r2)
theorem alike_nums : ∀ x y : List Nat, PySem.W.alikeAll (x.map fun n : Nat => PyData.int (n : Int)) (y.map fun n : Nat => PyData.int (n : Int)) = true := fun x y => by
  have := PySem.W.alike_ints (x.map fun n : Nat => (n : Int)) (y.map fun n : Nat => (n : Int))
  rw [List.map_map, List.map_map] at this
  exact this
theorem depth_nums_d (x : List Nat) : PyData.depthAll (x.map fun n : Nat => PyData.int (n : Int)) = 0 := by
  have := PySem.W.depth_ints (x.map fun n : Nat => (n : Int))
  rw [List.map_map] at this
  exact this
section
variable {X : Cx} {pins : List (Addr × Obj)} {σ : L2.St} {H : Hp} {s : Shared}
theorem row_reads (I : Inv X pins σ H s) {b : Addr} {x : List Nat} (h : SqT X.K H b (rowV x)) : Reads s.heap (.ref b) (dRow x) [] := by
  obtain ⟨its, r, ⟨o, ho, hc, n, hd⟩, _⟩ := I.tuple h
  exact .tuple ho hc hd (reads_nums r)
theorem key_reads (I : Inv X pins σ H s) {a : Addr} {k : Ky} (h : KeyAt X.K H a k) : Reads s.heap (.ref a) (dKy k) [] := by
  obtain ⟨b, c, h1, h2, h3⟩ := h
  obtain ⟨its, r, ⟨o, ho, hc, n, hd⟩, _⟩ := I.tuple h1
  refine .tuple ho hc hd ?_
  cases r with
  | cons r1 r2 =>
    cases r2 with
    | cons r3 r4 =>
      cases r4
      cases r1
      cases r3
      exact ReadsAll.cons (as := []) (bs := []) (row_reads I h2) (ReadsAll.cons (as := []) (bs := []) (row_reads I h3) .nil)
/-- sorted(d) -/
def rSortN (P : Program) (w : World) (K : PySem.W.Frag) : List V → Hp → VK → Prop := fun vs H Q => ∃ (D : Addr) (es : En), vs = [V.ref D] ∧ NdAt P w K H D es ∧
  ∀ (p : Addr) (es' : En), es'.Perm es → H p = none → Q (.ref p) (upd H p (.lst (es'.map fun e => V.ref e.2.1)))
theorem each_of {α β : Type} {R : α → β → Prop} : ∀ {as : List α} {bs : List β}, as.length = bs.length → (∀ (i : Nat) (a : α) (b : β), as[i]? = some a → bs[i]? = some b → R a b) → PySem.W.EachIs R as bs
  | [], [], _, _ => .nil
  | [], _ :: _, h, _ => by simp at h
  | _ :: _, [], h, _ => by simp at h
  | a :: as, b :: bs, h, k => .cons (k 0 a b rfl rfl) (each_of (by simpa using h) fun i x y h1 h2 => k (i + 1) x y (by simpa using h1) (by simpa using h2))
theorem each_vals {es : En} {out : List Value} (h : PySem.W.EachIs (fun v (b : Ky × Addr × Int) => v = Value.ref b.2.1) out es) : Vals (es.map fun e => V.ref e.2.1) out := by
  induction h with
  | nil => exact .nil
  | cons e r ih => exact .cons e ih
theorem erel_at {es : En} {ys : List (NestedKey × Addr × Value)} (r : ERel es ys) : ∀ {i : Nat} {e : Ky × Addr × Int} {y : NestedKey × Addr × Value}, es[i]? = some e → ys[i]? = some y → y.2.1 = e.2.1 := by
  induction r with
  | nil => intro i e y h; cases h
  | @cons e y es ys q t ih =>
    intro i e' y' h1 h2
    cases i with
    | zero => cases h1; cases h2; exact q.2.1
    | succ i => exact ih (by simpa using h1) (by simpa using h2)
theorem cr_sortN (hc : X.calm = true) (hu : X.A.units + 10 < cLine) : CallR X (.builtin "sorted") (rSortN X.prog X.w X.K) := by
  intro pins s σ H xs us Q I r q
  obtain ⟨D, es, rfl, hD, q⟩ := q
  obtain rfl := Vals.ref1 r
  obtain ⟨lo, hz, ys, rel, dd⟩ := nd_of I hD
  obtain ⟨o, ds, ep, h1, h2, h3, h4, h5, h6⟩ := dd
  have hsz : ds.size = ys.length := size_of_entries h4
  have hly : ys.length = es.length := (Paired.length rel).symm
  refine Calls.call_function_entry PyProof.Rows.kind_sorted PyProof.Rows.plain_sorted PyProof.Rows.entry_sorted (PyProof.Rows.args_sorted1 _) ?_
  unfold Builtin.«sorted»
  refine wpAny_bind (m := checkCount "sorted" 1 1 _) (wpAny_pure ?_)
  refine wpAny_bind (PySem.W.kdu_collect (A := X.A.in1) (kdl_raw lo h2 h3) (I.ok.hd hc) h1 (by rw [hsz, hly]; exact hz) fun h' tk acc hk hacc => ?_)
  have I1 : Inv X pins σ H { s with heap := h', toks := tk } := I.kept hk
  have hal : acc.toList.length = es.length := by rw [Array.length_toList, hacc.1, hsz, hly]
  have ei : PySem.W.EachIs (fun v (b : Ky × Addr × Int) => v = Value.ref b.2.1) acc.toList es := each_of hal fun i v b e1 e2 => by
    obtain ⟨en, e3, e4⟩ := hacc.2 i v (by rw [← Array.getElem?_toList]; exact e1)
    rw [entry_at h4] at e3
    obtain ⟨y, e5, e6⟩ := Option.map_eq_some_iff.mp e3
    rw [e4, ← e6]
    show Value.ref y.2.1 = _
    rw [erel_at rel e2 e5]
  refine wpAny_bind (wpAny_newList ?_ (by rw [hal]; exact hz))
  have hoL : (h'.push (seqObj "list" acc.toList.toArray 0)).get? h'.objs.size = some (seqObj "list" acc.toList.toArray 0) := Heap.get?_push_size _ rfl
  show wpAny _ _ _ _ _ { s with heap := h'.push (seqObj "list" acc.toList.toArray 0), toks := tk }
  refine wpAny_bind (wpAny_holding (PySem.W.list_sort_data (s := { s with heap := h'.push (seqObj "list" acc.toList.toArray 0), toks := tk }) (enc := fun b : Ky × Addr × Int => dKy b.1) hoL ei ?_ (PySem.W.AllAlike.of fun b b' => ?_) (PySem.W.Sortable.tuples fun b => ⟨_, _, rfl⟩) hz (fun b _ => ?_) fun out hlo eo => ?_))
  · refine each_of hal fun i v b e1 e2 => ?_
    obtain rfl : v = Value.ref b.2.1 := by
      obtain ⟨en, e3, e4⟩ := hacc.2 i v (by rw [← Array.getElem?_toList]; exact e1)
      rw [entry_at h4] at e3
      obtain ⟨y, e5, e6⟩ := Option.map_eq_some_iff.mp e3
      rw [e4, ← e6]
      show Value.ref y.2.1 = _
      rw [erel_at rel e2 e5]
    exact ⟨[], PyProof.Rows.Reads.keeps (fun _ _ => Heap.get?_push_of_some _) (key_reads I1 (hD.2 b (List.mem_of_getElem? e2))), fun z => by cases z⟩
  · show PySem.W.alike (dKy b.1) (dKy b'.1) = true
    simp only [dKy, dRow, PySem.W.alike, PySem.W.alikeAll, alike_nums, Bool.and_self]
  · show X.A.units + 1 + 1 + (dKy b.1).depth < _
    have e : (dKy b.1).depth = 2 := by simp only [dKy, dRow, PyData.depth, PyData.depthAll, depth_nums_d]; decide
    rw [e]; omega
  · obtain ⟨ep', he'⟩ := PyProof.Rows.sortedHeap_at (vs := acc.toList) (out := out.toArray) hoL
    have hold : ∀ b o, h'.get? b = some o → (sortedHeap (h'.push (seqObj "list" acc.toList.toArray 0)) h'.objs.size acc.toList out.toArray).get? b = some o := fun b o q => by
      have hlt := Heap.lt_size q
      unfold sortedHeap
      rw [Heap.get?_update_ne _ _ _ _ (Nat.ne_of_lt hlt), Heap.get?_push_ne _ _ _ (by rw [size_push', Heap.size_update, size_push']; exact Nat.ne_of_lt (Nat.lt_succ_of_lt (Nat.lt_succ_of_lt hlt))), Heap.get?_push_ne _ _ _ (by rw [Heap.size_update, size_push']; exact Nat.ne_of_lt (Nat.lt_succ_of_lt hlt)), Heap.get?_update_ne _ _ _ _ (Nat.ne_of_lt hlt)]
      exact Heap.get?_push_of_some _ q
    have hp : (es.mergeSort (PySem.W.dataLe false fun b : Ky × Addr × Int => dKy b.1)).Perm es := List.mergeSort_perm _ _
    have hn : H h'.objs.size = none := I1.hok.fresh (Nat.le_refl _)
    refine wpAny_pure ⟨_, rfl, .ref _, _, I1.laid (a := h'.objs.size) (o := .lst ((es.mergeSort (PySem.W.dataLe false fun b : Ky × Addr × Int => dKy b.1)).map fun e => V.ref e.2.1)) (t' := tk) hold (Nat.le_refl _) ⟨by rw [List.length_map, hp.length_eq]; exact hz, out, ep', each_vals eo, he'⟩, rfl, q _ _ hp hn⟩
end
end K58
set_option Elab.async false
set_option linter.all false
set_option maxRecDepth 100000
set_option maxHeartbeats 4000000
set_option autoImplicit false
/-! the text by places; data by what stands in the heap -/
namespace K58
open PySem PySem.Spec PyProof.Rows L2
def top (i : Nat) : Stmt := PySem.Challenge.pw_shorterline_k58_whole_alike_halls.main.body.getD i (.Pass ⟨0, 0, 0, 0⟩)
abbrev s_is_whole : Stmt := top 5
abbrev s_common : Stmt := top 6
abbrev s_fraction_of : Stmt := top 7
abbrev s_divided : Stmt := top 8
abbrev s_is_less : Stmt := top 9
abbrev s_is_alike : Stmt := top 11
abbrev s_is_line : Stmt := top 13
abbrev s_place_of : Stmt := top 14
abbrev s_shorter : Stmt := top 15
abbrev s_shortest : Stmt := top 16
abbrev s_quickest : Stmt := top 17
abbrev s_sent_to : Stmt := top 18
abbrev s_first_stand : Stmt := top 24
abbrev s_are_lines : Stmt := top 25
abbrev s_is_stand : Stmt := top 26
abbrev s_all_orders : Stmt := top 27
abbrev s_lines_with : Stmt := top 28
abbrev s_shifts_of : Stmt := top 29
abbrev s_asked : Stmt := top 30
abbrev s_changed : Stmt := top 31
abbrev s_moved_on : Stmt := top 32
abbrev s_kept_lines : Stmt := top 36
abbrev s_all_moves : Stmt := top 37
abbrev s_ask_rules : Stmt := top 38
abbrev s_both_moved : Stmt := top 39
abbrev s_is_worse : Stmt := top 40
abbrev s_are_kept : Stmt := top 41
abbrev s_is_triple : Stmt := top 42
abbrev s_least_known : Stmt := top 43
abbrev s_is_closed : Stmt := top 44
abbrev s_lets_never : Stmt := top 45
abbrev s_Pairs_init : Stmt := inClass (top 47) 0
abbrev s_Pairs_run_to : Stmt := inClass (top 47) 1
abbrev s_Pairs_met : Stmt := inClass (top 47) 2
abbrev s_Pairs_worse_run : Stmt := inClass (top 47) 3
abbrev s_never_worse : Stmt := top 48
abbrev s__law_tape : Stmt := top 50
abbrev s__law_draw : Stmt := top 51
abbrev s__law_frac : Stmt := top 52
abbrev s__law_all_lines : Stmt := top 53
abbrev s__law_sent : Stmt := top 54
abbrev s__law_put : Stmt := top 55
abbrev s__law_step : Stmt := top 56
abbrev s__law_kept : Stmt := top 57
abbrev s__law_moves : Stmt := top 58
abbrev s__law_both : Stmt := top 59
abbrev s__law_alike_hall : Stmt := top 61
abbrev s__law_told_rule : Stmt := top 62
abbrev s__law_is_never : Stmt := top 63
abbrev s__law_as_many : Stmt := top 64
abbrev s_law : Stmt := top 65
abbrev FnP (K : PySem.W.Frag) (x qual : Str) (st : Stmt) (f : Addr) (fd : FuncData) : Prop := FunD K x qual (defArgs st) (defBody st) (defScope st) [] [] f fd
open Evl (Ex)
/-! ### data -/
section
variable (K : PySem.W.Frag) (H : Hp)
def RowAt (v : V) (x : List Nat) : Prop := ∃ a, v = .ref a ∧ SqT K H a (rowV x)
/-- a hall: so many alike lines, their room, their speed t/b -/
structure Hl where
  n : Nat
  r : Nat
  t : Nat
  b : Nat
structure HlOk (h : Hl) : Prop where
  n0 : 0 < h.n
  n4 : h.n ≤ 4
  r0 : 0 < h.r
  r4 : h.r ≤ 4
  t0 : 0 < h.t
  t9 : h.t ≤ 1000
  b0 : 0 < h.b
  b9 : h.b ≤ 1000
  lins : (h.r + 1) ^ h.n ≤ 27
def SpeedAt (v : V) (t b : Nat) : Prop := ∃ a, v = .ref a ∧ SqT K H a [.int t, .int b]
def HallAt (v : V) (h : Hl) : Prop := ∃ a co se sv sp, v = .ref a ∧ SqT K H a [co, .ref se, .bl false] ∧ SqT K H se (List.replicate h.n (.ref sv)) ∧ SqT K H sv [.ref sp, .int h.r] ∧ SqT K H sp [.int h.t, .int h.b]
def RuleAt (v : V) : Rl → Prop
  | .random => ∃ a, v = .ref a ∧ SqT K H a [.str "random"]
  | .two => ∃ a, v = .ref a ∧ SqT K H a [.str "two"]
  | .least => ∃ a, v = .ref a ∧ SqT K H a [.str "least"]
  | .quick => ∃ a, v = .ref a ∧ SqT K H a [.str "quick"]
  | .told ps => ∃ a p, v = .ref a ∧ SqT K H a [.str "told", .ref p] ∧ SqT K H p (rowV ps)
def StandAt (v : V) (x : List Nat) : Prop := ∃ a p, v = .ref a ∧ SqT K H a [.ref p, .int 0] ∧ SqT K H p (rowV x)
def MvAt (v : V) : Mv → Prop
  | .come o => ∃ a p, v = .ref a ∧ SqT K H a [.str "come", .ref p] ∧ SqT K H p (rowV o)
  | .done k => ∃ a, v = .ref a ∧ SqT K H a [.str "done", .int k]
  | .still => ∃ a, v = .ref a ∧ SqT K H a [.str "still"]
def TrAt (v : V) (t : Tr) : Prop := ∃ a p q, v = .ref a ∧ SqT K H a [.ref p, .ref q, .int t.2.2] ∧ SqT K H p (rowV t.1) ∧ SqT K H q (rowV t.2.1)
end
section
variable {K : PySem.W.Frag} {H H' : Hp} {v : V}
theorem RowAt.ex {x : List Nat} (e : Ex H H') (h : RowAt K H v x) : RowAt K H' v x := by
  obtain ⟨a, rfl, h⟩ := h
  exact ⟨a, rfl, Evl.ex_t e h⟩
theorem SpeedAt.ex {t b : Nat} (e : Ex H H') (h : SpeedAt K H v t b) : SpeedAt K H' v t b := by
  obtain ⟨a, rfl, h⟩ := h
  exact ⟨a, rfl, Evl.ex_t e h⟩
theorem HallAt.ex {h : Hl} (e : Ex H H') (q : HallAt K H v h) : HallAt K H' v h := by
  obtain ⟨a, co, se, sv, sp, rfl, h1, h2, h3, h4⟩ := q
  exact ⟨a, co, se, sv, sp, rfl, Evl.ex_t e h1, Evl.ex_t e h2, Evl.ex_t e h3, Evl.ex_t e h4⟩
theorem RuleAt.ex {R : Rl} (e : Ex H H') (h : RuleAt K H v R) : RuleAt K H' v R := by
  cases R with
  | told ps =>
    obtain ⟨a, p, rfl, h1, h2⟩ := h
    exact ⟨a, p, rfl, Evl.ex_t e h1, Evl.ex_t e h2⟩
  | _ =>
    obtain ⟨a, rfl, h1⟩ := h
    exact ⟨a, rfl, Evl.ex_t e h1⟩
theorem StandAt.ex {x : List Nat} (e : Ex H H') (h : StandAt K H v x) : StandAt K H' v x := by
  obtain ⟨a, p, rfl, h1, h2⟩ := h
  exact ⟨a, p, rfl, Evl.ex_t e h1, Evl.ex_t e h2⟩
theorem MvAt.ex {m : Mv} (e : Ex H H') (h : MvAt K H v m) : MvAt K H' v m := by
  cases m with
  | come o =>
    obtain ⟨a, p, rfl, h1, h2⟩ := h
    exact ⟨a, p, rfl, Evl.ex_t e h1, Evl.ex_t e h2⟩
  | _ =>
    obtain ⟨a, rfl, h1⟩ := h
    exact ⟨a, rfl, Evl.ex_t e h1⟩
theorem TrAt.ex {t : Tr} (e : Ex H H') (h : TrAt K H v t) : TrAt K H' v t := by
  obtain ⟨a, p, q, rfl, h1, h2, h3⟩ := h
  exact ⟨a, p, q, rfl, Evl.ex_t e h1, Evl.ex_t e h2, Evl.ex_t e h3⟩
theorem row_at {x : List Nat} {k : Nat} (h : k < x.length) : atI (rowV x) (k : Int) = some (.int (x.getD k 0)) :=
  atI_nat (by unfold rowV; rw [List.getElem?_map, some_of h]; rfl)
end

/-! ### a def of the module, as its callers see it -/
def Clb (P : Program) (w : World) (K : PySem.W.Frag) (mg : Str → Option Value) (base : Heap) (x : Str) (l : Nat) (ps : List Str) (sp : Sp) : Prop :=
  ∃ f fd, mg x = some (.ref f) ∧ PySem.W.keepIn K (.ref f) = true ∧ Binds K fd ps [] ∧ FnOk P w K mg base CX0 l f fd ps sp
theorem clb_of {P : Program} {w : World} {K : PySem.W.Frag} {mg : Str → Option Value} {base : Heap} {x : Str} {l : Nat} {ps : List Str} {sp : Sp} {f : Addr} {fd : FuncData} {st : Stmt}
    (m : mg x = some (.ref f)) (F : FnP K x x st f fd) (b : Binds K fd ps []) (G : FnOk P w K mg base CX0 l f fd ps sp) : Clb P w K mg base x l ps sp := ⟨f, fd, m, F.kp, b, G⟩
section
variable {X : Cx} {k l : Nat} {ps : List Str} {sp : Sp} {x : Str} {p pos : Pos} {e : Expr} {es : List Expr} {t : TA}
theorem pe_c (C : Clb X.prog X.w X.K X.mg X.base x l ps sp) (hr : Room k X.A) (hg : Gl X x) (ha : PA X (e :: es) t) (hk : l ≤ k := by decide) (hdb : (x == ("__debug__" : Str)) = false := by decide)
    (he : starEach (e :: es) X.env = (false, eval e X.env) :: starEach es X.env := by rfl) (hpl : (backTo pos (starEach es X.env)).any (·.1) = false := by rfl) : PE X (.Call (.Name x p) (e :: es) [] pos) (tCall sp [] E0 t) := by
  obtain ⟨f, fd, m, kp, b, G⟩ := C
  exact pe_call G (hr.mono hk) hg m kp b .nil pass0 ha hdb he hpl
end
theorem u4 {A : Around} {k : Nat} (hr : Room k A) : A.units + 4 < cLine := by have := hr.un; omega
theorem u10 {A : Around} {k : Nat} (hr : Room k A) : A.units + 10 < cLine := by have := hr.un; omega
theorem u65 {A : Around} {k : Nat} (hr : Room k A) : A.units + 65 < cLine := by have := hr.un; omega
theorem rep_at {α : Type} {n k : Nat} {a : α} (h : k < n) : (List.replicate n a)[k]? = some a := by rw [List.getElem?_replicate, if_pos h]
/-- what the module's names stand for -/
structure Tx (K : PySem.W.Frag) (mg : Str → Option Value) : Prop where
  m_isinstance : mg "isinstance" = none
  m_int : mg "int" = none
  m_bool : mg "bool" = none
  m_tuple : mg "tuple" = none
  m_len : mg "len" = none
  m_range : mg "range" = none
  m_abs : mg "abs" = none
  m_min : mg "min" = none
  m_max : mg "max" = none
  m_sum : mg "sum" = none
  m_sorted : mg "sorted" = none
  m_all : mg "all" = none
  m_zip : mg "zip" = none
  m_list : mg "list" = none
  m_reversed : mg "reversed" = none
  g_AWAY : ∃ t, mg "AWAY" = some (.str "away" t)
  g_TAKEN : ∃ t, mg "TAKEN" = some (.str "taken" t)
  g_SERVED : ∃ t, mg "SERVED" = some (.str "served" t)
  g_NONE : ∃ t, mg "NONE" = some (.str "none" t)
  g_TURNS : ∃ t, mg "TURNS" = some (.str "turns" t)
  g_PLACES : ∃ a, mg "PLACES" = some (.ref a) ∧ ∀ H, SqT K H a [.str "least"]
theorem pe_globS {X : Cx} {x z : Str} {pos : Pos} (hg : Gl X x) (h : ∃ t, X.mg x = some (.str z t)) (hd : (x == ("__debug__" : Str)) = false := by decide) : PE X (.Name x pos) (tC (.str z)) := by
  obtain ⟨t, e⟩ := h
  exact pe_glob hg e ⟨t, rfl⟩ hd
/-- a promise: so many arguments, then what it says -/
def Pm (n : Nat) (b : List V → Hp → VK → Prop) : Sp := fun vs H Q _ => vs.length = n ∧ b vs H Q
theorem pm_len {n : Nat} {b : List V → Hp → VK → Prop} {vs : List V} {H : Hp} {Q : VK} {E : XK} (h : Pm n b vs H Q E) : vs.length = n := h.1
/-! the rules, the written part told -/
section
variable (K : PySem.W.Frag) {X : Cx}
theorem ixT (h : X.K = K := by rfl) : IxR X (rIxT K) := by subst h; exact ix_tup
theorem ixL (h : X.K = K := by rfl) : IxR X (rIxL K) := by subst h; exact ix_list
theorem eqD (hu : X.A.units + 64 < cLine) (h : X.K = K := by rfl) : OpR X (compareOp .Eq) (rEqD K) := by subst h; exact op_eqD hu
theorem neD (hu : X.A.units + 64 < cLine) (h : X.K = K := by rfl) : OpR X (compareOp .NotEq) (rNeD K) := by subst h; exact op_neD hu
theorem inS (h : X.K = K := by rfl) : OpR X (compareOp .In) (rIn K false) := by subst h; exact op_in_seq
theorem niS (h : X.K = K := by rfl) : OpR X (compareOp .NotIn) (rIn K true) := by subst h; exact op_notIn_seq
theorem catT (h : X.K = K := by rfl) : OpR X (binaryOp .Add) (rCatA K) := by subst h; exact op_catA
def rLenQ (K : PySem.W.Frag) : List V → Hp → VK → Prop := fun xs H Q => ∃ p ys, xs = [.ref p] ∧ (SqL K H p ys ∨ SqT K H p ys) ∧ Q (.int ys.length) H
theorem lenQ (h : X.K = K := by rfl) : CallR X (.builtin "len") (rLenQ K) := by subst h; exact call_len_seq
theorem niT (hu : X.A.units + 65 < cLine) (h : X.K = K := by rfl) : OpR X (compareOp .NotIn) (rNotInT K) := by subst h; exact op_notInT hu
theorem slTA (h : X.K = K := by rfl) : SlR X (rSlA K) := by subst h; exact sl_tupA
end
theorem pe_subQ (P : Program) (w : World) (K : PySem.W.Frag) {X : Cx} {o i : Expr} {td ty : TE} {pos : Pos} (hu : X.A.units + 10 < cLine) (ho : PE X o td) (hi : PE X i ty) (hs : NoSl i) (h1 : X.prog = P := by rfl) (h2 : X.w = w := by rfl) (h3 : X.K = K := by rfl) : PE X (.Subscript o i pos) (tSubN P w K td ty) := by
  subst h1 h2 h3; exact pe_subN hu ho hi hs
theorem sqt_ty {K : PySem.W.Frag} {H : Hp} {a : Addr} {xs : List V} (h : SqT K H a xs) : TyX K H (.ref a) (.type "tuple") := by
  rcases h with (h | ⟨o, h⟩) | ⟨o, _, _, h, c, _⟩
  · exact .base (.tup h)
  · exact .fTuple h
  · exact .kTuple h c
/-! ### the class Pairs -/
structure Tp (K : PySem.W.Frag) (mg : Str → Option Value) (C : Addr) : Prop where
  cl : Cls K C
  mgC : mg "Pairs" = some (.ref C)
  n_hall : NoAttr K C "hall"
  n_one : NoAttr K C "one"
  n_other : NoAttr K C "other"
  n_line : NoAttr K C "line"
  n_ahead_of : NoAttr K C "ahead_of"
  n_least_of : NoAttr K C "least_of"
def Mtb (P : Program) (w : World) (K : PySem.W.Frag) (mg : Str → Option Value) (base : Heap) (C : Addr) (x : Str) (l : Nat) (ps : List Str) (sp : Sp) : Prop :=
  ∃ f fd, Meth K C x f ∧ Binds K fd ps [] ∧ FnOk P w K mg base CX0 l f fd ps sp
def Mkb (P : Program) (w : World) (K : PySem.W.Frag) (mg : Str → Option Value) (base : Heap) (C : Addr) (l : Nat) (ps : List Str) (sp : Sp) : Prop :=
  ∃ f fd, Mk K C f ∧ Binds K fd ps [] ∧ FnOk P w K mg base CX0 l f fd ps sp
section
variable {X : Cx} {k l : Nat} {ps : List Str} {sp : Sp} {x m : Str} {p pos apos : Pos} {e o : Expr} {es : List Expr} {t : TA} {ta : TE} {C : Addr}
theorem pe_mk (M : Mkb X.prog X.w X.K X.mg X.base C l ps sp) (hr : Room k X.A) (hg : Gl X x) (hm : X.mg x = some (.ref C)) (ha : PA X (e :: es) t) (hk : l + 1 ≤ k := by decide) (hdb : (x == ("__debug__" : Str)) = false := by decide)
    (he : starEach (e :: es) X.env = (false, eval e X.env) :: starEach es X.env := by rfl) (hpl : (backTo pos (starEach es X.env)).any (·.1) = false := by rfl) : PE X (.Call (.Name x p) (e :: es) [] pos) (tMake C sp [] E0 t) := by
  obtain ⟨f, fd, m, b, G⟩ := M
  exact pe_make m G (hr.mono hk) hg hm b .nil pass0 ha hdb he hpl
theorem pe_m {pl : Sem Bool} (M : Mtb X.prog X.w X.K X.mg X.base C m l ps sp) (c : Cls X.K C) (hr : Room k X.A) (ho : PE X o ta) (ha : PA X (e :: es) t) (hk : l ≤ k := by decide)
    (hst : starEach (e :: es) X.env = (false, eval e X.env) :: starEach es X.env := by rfl) (hpl : (backTo pos (starEach es X.env)).any (·.1) = false := by rfl)
    (ht : eval (.Call (.Attribute o m apos) (e :: es) [] pos) X.env = (do
      let ov ← eval o X.env
      standAt apos.atName
      let (f, first) ← holding [ov] (getMethod ov m pl)
      callWith pos f first (backTo pos (starEach (e :: es) X.env)) (backToKw pos (keywordEach [] X.env))) := by rfl) :
    PE X (.Call (.Attribute o m apos) (e :: es) [] pos) (tMeth C m sp [] E0 ta t) := by
  obtain ⟨f, fd, mt, b, G⟩ := M
  exact pe_meth ho c mt G (hr.mono hk) b .nil pass0 ha hst hpl ht
theorem pe_m0 {pl : Sem Bool} (M : Mtb X.prog X.w X.K X.mg X.base C m l ps sp) (c : Cls X.K C) (hr : Room k X.A) (ho : PE X o ta) (hk : l ≤ k := by decide)
    (ht : eval (.Call (.Attribute o m apos) [] [] pos) X.env = (do
      let ov ← eval o X.env
      standAt apos.atName
      let (f, first) ← holding [ov] (getMethod ov m pl)
      callWith pos f first (backTo pos (starEach [] X.env)) (backToKw pos (keywordEach [] X.env))) := by rfl) :
    PE X (.Call (.Attribute o m apos) [] [] pos) (tMeth C m sp [] E0 ta tNil) := by
  obtain ⟨f, fd, mt, b, G⟩ := M
  exact pe_meth0 ho c mt G (hr.mono hk) b .nil pass0 ht
end
/-! the dict's rules, all told -/
section
variable (P : Program) (w : World) (K : PySem.W.Frag) {X : Cx}
theorem pe_newQ {pos : Pos} (h1 : X.prog = P := by rfl) (h2 : X.w = w := by rfl) : PE X (.Dict [] [] pos) (tNewN P w) := by subst h1 h2; exact pe_newN
theorem pe_dispQ {k v : Expr} {pos : Pos} {tk tv : TE} (hu : X.A.units + 10 < cLine) (hk : PE X k tk) (hv : PE X v tv) (h1 : X.prog = P := by rfl) (h2 : X.w = w := by rfl) (h3 : X.K = K := by rfl) : PE X (.Dict [some k] [v] pos) (tDispN P w K tk tv) := by
  subst h1 h2 h3; exact pe_dispN hu hk hv
theorem notInQ (hu : X.A.units + 10 < cLine) (h1 : X.prog = P := by rfl) (h2 : X.w = w := by rfl) (h3 : X.K = K := by rfl) : OpR X (compareOp .NotIn) (rNotInN P w K) := by subst h1 h2 h3; exact op_notInN hu
theorem setQ (hu : X.A.units + 10 < cLine) (h1 : X.prog = P := by rfl) (h2 : X.w = w := by rfl) (h3 : X.K = K := by rfl) : PSet X (rSetN P w K) := by subst h1 h2 h3; exact set_N hu
theorem pe_getQ {o e f : Expr} {apos cpos : Pos} {td ty tx : TE} (hu : X.A.units + 10 < cLine) (ho : PE X o td) (he : PE X e ty) (hf : PE X f tx) (m : M2 X o "get" apos e f cpos) (h1 : X.prog = P := by rfl) (h2 : X.w = w := by rfl) (h3 : X.K = K := by rfl) :
    PE X (.Call (.Attribute o "get" apos) [e, f] [] cpos) (tGetN P w K td ty tx) := by subst h1 h2 h3; exact pe_getN hu ho he hf m
theorem sortQ (hc : X.calm = true) (hu : X.A.units + 10 < cLine) (h1 : X.prog = P := by rfl) (h2 : X.w = w := by rfl) (h3 : X.K = K := by rfl) : CallR X (.builtin "sorted") (rSortN P w K) := by subst h1 h2 h3; exact cr_sortN hc hu
end
theorem pg_tupQ (K : PySem.W.Frag) {X : Cx} {es : List Expr} {k : Nat} {t : TGs} {n : Nat} {pos : Pos} (hc : X.calm = true) (h : PGs X es t) (hn : (assignEach es X.env).length = n := by rfl) (hst : (assignEach es X.env).findIdx? (·.1) = none := by rfl) (hK : X.K = K := by rfl) : PG X (.Tuple es k pos) (gTup K n t) := by
  subst hK; exact pg_tup hc h hn hst
end K58
set_option Elab.async false
set_option linter.all false
set_option maxRecDepth 100000
set_option maxHeartbeats 4000000
set_option autoImplicit false
namespace K58
open PySem PySem.Spec PyProof.Rows L2
open Evl (Ex)
section
variable {P : Program} {w : World} {K : PySem.W.Frag} {mg : Str → Option Value} {base : Heap}
def sp_common (_ : Program) (_ : World) (_ : PySem.W.Frag) : Sp := Pm 2 fun vs H Q => ∃ a b : Nat, vs = [.int a, .int b] ∧ Q (.int (Nat.gcd a b : Nat)) H
/-! ### common -/
abbrev N_sc_common : List Str := ["one", "other"]
theorem sc_common : FnScope N_sc_common ["one", "other"] (defScope s_common) := ⟨rfl, rfl, rfl, by decide +kernel, rfl, by decide +kernel, by decide +kernel⟩
theorem cl_common {f : Addr} {fd : FuncData} (T : Tx K mg) (F : FnP K "common" "common" s_common f fd) (m : mg "common" = some (.ref f))  :
    Clb P w K mg base "common" 1 ["one", "other"] (sp_common P w K) := by
    refine clb_of m F (F.bindsN fun _ _ _ _ _ _ us hl => match us, hl with | [_, _], _ => rfl) (F.ok sc_common (fun _ _ _ _ h => by exact pm_len h) (fun cdv A outer s H vs Q E hr h => ?_))
    obtain ⟨_, a, b, rfl, q⟩ := h
    refine ⟨_, PSs.nox (pss_cons (ps_set (i := 0) sc_common.nd rfl (Or.inl rfl) (pe_callB call_abs (by rfl) T.m_abs (by decide +kernel) (pa_cons (pv 0) pa_nil)))
      (pss_cons (ps_set (i := 1) sc_common.nd rfl (Or.inl rfl) (pe_callB call_abs (by rfl) T.m_abs (by decide +kernel) (pa_cons (pv 1) pa_nil)))
      (pss_cons (ps_while PassesOwn.never (pt_cmpR op_gt (pv 1) pe_int (nomark _))
      (pss_one (ps_par (i := 0) (j := 1) (by rfl) sc_common.nd rfl rfl (by decide) rfl rfl (pa_cons (pv 1) (pa_cons (pe_op op_mod (pv 0) (pv 1)) pa_nil)) (by rfl))))
      (pss_one (ps_ret (pv 0)))))), ?_⟩
    refine ⟨_, rfl, _, rfl, ?_⟩
    refine ⟨_, rfl, _, rfl, ?_⟩
    rw [if_neg (by omega), if_neg (by omega)]
    refine ⟨fun m σ H' => H' = H ∧ ∃ x y : Nat, y = m ∧ σ = [some (.int x), some (.int y)] ∧ Nat.gcd x y = Nat.gcd a b, ⟨b, rfl, a, b, rfl, rfl, rfl⟩, ?_⟩
    rintro m σ H' ⟨rfl, x, y, rfl, rfl, e⟩
    refine ⟨_, rfl, _, _, rfl, rfl, _, rfl, ite2 (fun c => ?_) (fun c => ?_)⟩
    · have hy : 0 < y := by have := of_decide_eq_true c; omega
      refine ⟨fun σ' H2 => ∃ m', m' < y ∧ (H2 = H' ∧ ∃ x y : Nat, y = m' ∧ σ' = [some (.int x), some (.int y)] ∧ Nat.gcd x y = Nat.gcd a b), fun _ _ h => h, ?_⟩
      refine ⟨_, rfl, _, rfl, _, rfl, _, _, rfl, rfl, by show (0 : Int) < y; omega, _, _, rfl, x % y, Nat.mod_lt _ hy, rfl, y, x % y, rfl, rfl, ?_⟩
      rw [← e, Nat.gcd_comm x y, Nat.gcd_rec y x, Nat.gcd_comm]
    · have hy : y = 0 := by
        have : ¬ ((0 : Int) < y) := fun z => c (decide_eq_true z)
        omega
      subst hy
      rw [Nat.gcd_zero_right] at e
      subst e
      exact ⟨_, rfl, q⟩
def sp_fraction_of (_ : Program) (_ : World) (K : PySem.W.Frag) : Sp := Pm 2 fun vs H Q => ∃ p q : Nat, vs = [.int p, .int q] ∧ 0 < q ∧ q ≤ 100000000 ∧ ∀ v H', Ex H H' → SpeedAt K H' v (p / Nat.gcd p q) (q / Nat.gcd p q) → Q v H'
/-! ### fraction_of -/
abbrev N_sc_fraction_of : List Str := ["top", "bottom", "divisor"]
theorem sc_fraction_of : FnScope N_sc_fraction_of ["top", "bottom"] (defScope s_fraction_of) := ⟨rfl, rfl, rfl, by decide +kernel, rfl, by decide +kernel, by decide +kernel⟩
theorem cl_fraction_of {f : Addr} {fd : FuncData} (T : Tx K mg) (F : FnP K "fraction_of" "fraction_of" s_fraction_of f fd) (m : mg "fraction_of" = some (.ref f)) (C_common : Clb P w K mg base "common" 1 ["one", "other"] (sp_common P w K)) :
    Clb P w K mg base "fraction_of" 2 ["top", "bottom"] (sp_fraction_of P w K) := by
    refine clb_of m F (F.bindsN fun _ _ _ _ _ _ us hl => match us, hl with | [_, _], _ => rfl) (F.ok sc_fraction_of (fun _ _ _ _ h => by exact pm_len h) (fun cdv A outer s H vs Q E hr h => ?_))
    obtain ⟨_, p, q, rfl, h0, h1, k⟩ := h
    refine ⟨_, PSs.nox (pss_cons (ps_if (pt_cmpR op_eq (pv 1) pe_int (nomark _))
      pss_never
      pss_nil)
      (pss_cons (ps_set (i := 2) sc_fraction_of.nd rfl (Or.inl rfl) (pe_c C_common hr (by rfl) (pa_cons (pv 0) (pa_cons (pv 1) pa_nil))))
      (pss_cons (ps_if (pt_cmpR op_lt (pv 1) pe_int (nomark _))
      (pss_one (ps_set (i := 2) sc_fraction_of.nd rfl (Or.inl rfl) (pe_un un_neg (pv 2))))
      pss_nil)
      (pss_one (ps_ret (pe_tup (pa_cons (pe_op op_fdiv (pv 0) (pv 2)) (pa_cons (pe_op op_fdiv (pv 1) (pv 2)) pa_nil)))))))), ?_⟩
    have hg : 0 < Nat.gcd p q := Nat.gcd_pos_of_pos_right p h0
    have hg2 : Nat.gcd p q ≤ q := Nat.gcd_le_right p h0
    refine ⟨_, rfl, rfl, _, rfl, ?_⟩
    rw [decide_eq_false (by simp; omega)]
    refine iteF ?_
    refine ⟨_, rfl, _, rfl, rfl, p, q, rfl, ?_⟩
    refine ⟨_, rfl, _, _, rfl, rfl, _, rfl, ?_⟩
    rw [decide_eq_false (by omega)]
    refine iteF ?_
    have hc : CDiv ((p : Nat) : Int) ((Nat.gcd p q : Nat) : Int) := ⟨by omega, by omega⟩
    refine ⟨_, rfl, _, rfl, _, _, rfl, rfl, hc, _, rfl, _, rfl, _, _, rfl, rfl, hc, by show 2 ≤ sizeLine; decide, fun a ha => ?_⟩
    exact k _ _ (Evl.Ex.new ha) ⟨a, rfl, SqT.of upd_same⟩
def sp_divided (_ : Program) (_ : World) (K : PySem.W.Frag) : Sp := Pm 2 fun vs H Q => ∃ (u v : V) (p q t b : Nat), vs = [u, v] ∧ SpeedAt K H u p q ∧ SpeedAt K H v t b ∧ 0 < q ∧ 0 < t ∧ p ≤ 10000 ∧ q ≤ 10000 ∧ t ≤ 10000 ∧ b ≤ 10000 ∧
  ∀ v H', Ex H H' → SpeedAt K H' v ((p * b) / Nat.gcd (p * b) (q * t)) ((q * t) / Nat.gcd (p * b) (q * t)) → Q v H'
theorem cmul_small {a b : Nat} (h : a ≤ 10000) : CMul (a : Int) (b : Int) := .inl ⟨by omega, by omega⟩
/-! ### divided -/
abbrev N_sc_divided : List Str := ["one", "other"]
theorem sc_divided : FnScope N_sc_divided ["one", "other"] (defScope s_divided) := ⟨rfl, rfl, rfl, by decide +kernel, rfl, by decide +kernel, by decide +kernel⟩
theorem cl_divided {f : Addr} {fd : FuncData} (T : Tx K mg) (F : FnP K "divided" "divided" s_divided f fd) (m : mg "divided" = some (.ref f)) (C_fraction_of : Clb P w K mg base "fraction_of" 2 ["top", "bottom"] (sp_fraction_of P w K)) :
    Clb P w K mg base "divided" 3 ["one", "other"] (sp_divided P w K) := by
    refine clb_of m F (F.bindsN fun _ _ _ _ _ _ us hl => match us, hl with | [_, _], _ => rfl) (F.ok sc_divided (fun _ _ _ _ h => by exact pm_len h) (fun cdv A outer s H vs Q E hr h => ?_))
    obtain ⟨_, u, v, p, q, t, b, rfl, ⟨a, rfl, ha⟩, ⟨c, rfl, hc⟩, h1, h2, h3, h4, h5, h6, k⟩ := h
    refine ⟨_, PSs.nox (pss_one (ps_ret (pe_c C_fraction_of hr (by rfl) (pa_cons (pe_op op_mul (pe_ix (ixT K) (pv 0) pe_int (fun _ _ => rfl)) (pe_ix (ixT K) (pv 1) pe_int (fun _ _ => rfl))) (pa_cons (pe_op op_mul (pe_ix (ixT K) (pv 0) pe_int (fun _ _ => rfl)) (pe_ix (ixT K) (pv 1) pe_int (fun _ _ => rfl))) pa_nil))))), ?_⟩
    refine ⟨_, rfl, _, _, _, _, rfl, rfl, ha, rfl, _, rfl, _, _, _, _, rfl, rfl, hc, rfl, _, _, rfl, rfl, cmul_small h3, _, rfl, _, _, _, _, rfl, rfl, ha, rfl, _, rfl, _, _, _, _, rfl, rfl, hc, rfl, _, _, rfl, rfl, cmul_small h4, rfl, p * b, q * t, by simp, Nat.mul_pos h1 h2, Nat.le_trans (Nat.mul_le_mul h4 h5) (by decide), k⟩
def sp_is_less (_ : Program) (_ : World) (K : PySem.W.Frag) : Sp := Pm 2 fun vs H Q => ∃ (u v : V) (p q t b : Nat), vs = [u, v] ∧ SpeedAt K H u p q ∧ SpeedAt K H v t b ∧ p ≤ 100000000 ∧ t ≤ 100000000 ∧ Q (.bl (decide (p * b < t * q))) H
theorem cmul_mid {a b : Nat} (h : a ≤ 100000000) : CMul (a : Int) (b : Int) := .inl ⟨by omega, by omega⟩
/-! ### is_less -/
abbrev N_sc_is_less : List Str := ["one", "other"]
theorem sc_is_less : FnScope N_sc_is_less ["one", "other"] (defScope s_is_less) := ⟨rfl, rfl, rfl, by decide +kernel, rfl, by decide +kernel, by decide +kernel⟩
theorem cl_is_less {f : Addr} {fd : FuncData} (T : Tx K mg) (F : FnP K "is_less" "is_less" s_is_less f fd) (m : mg "is_less" = some (.ref f))  :
    Clb P w K mg base "is_less" 1 ["one", "other"] (sp_is_less P w K) := by
    refine clb_of m F (F.bindsN fun _ _ _ _ _ _ us hl => match us, hl with | [_, _], _ => rfl) (F.ok sc_is_less (fun _ _ _ _ h => by exact pm_len h) (fun cdv A outer s H vs Q E hr h => ?_))
    obtain ⟨_, u, v, p, q, t, b, rfl, ⟨a, rfl, ha⟩, ⟨c, rfl, hc⟩, h1, h2, k⟩ := h
    refine ⟨_, PSs.nox (pss_one (ps_ret (pe_cmpR op_lt (pe_op op_mul (pe_ix (ixT K) (pv 0) pe_int (fun _ _ => rfl)) (pe_ix (ixT K) (pv 1) pe_int (fun _ _ => rfl))) (pe_op op_mul (pe_ix (ixT K) (pv 1) pe_int (fun _ _ => rfl)) (pe_ix (ixT K) (pv 0) pe_int (fun _ _ => rfl))) (nomark _)))), ?_⟩
    refine ⟨_, rfl, _, _, _, _, rfl, rfl, ha, rfl, _, rfl, _, _, _, _, rfl, rfl, hc, rfl, _, _, rfl, rfl, cmul_mid h1, _, rfl, _, _, _, _, rfl, rfl, hc, rfl, _, rfl, _, _, _, _, rfl, rfl, ha, rfl, _, _, rfl, rfl, cmul_mid h2, _, _, rfl, rfl, ?_⟩
    have e : decide ((p : Int) * (b : Int) < (t : Int) * (q : Int)) = decide (p * b < t * q) := by
      rw [← Int.natCast_mul, ← Int.natCast_mul]
      exact decide_eq_decide.mpr (by omega)
    show Q (.bl (decide ((p : Int) * (b : Int) < (t : Int) * (q : Int)))) H
    rw [e]
    exact k
end
end K58
set_option Elab.async false
set_option linter.all false
set_option maxRecDepth 100000
set_option maxHeartbeats 4000000
set_option autoImplicit false
namespace K58
open PySem PySem.Spec PyProof.Rows L2
open Evl (Ex)
section
variable {P : Program} {w : World} {K : PySem.W.Frag} {mg : Str → Option Value} {base : Heap}
theorem rowV_len (x : List Nat) : (rowV x).length = x.length := by unfold rowV; rw [List.length_map]
theorem row_atz {x : List Nat} {z : Int} {k : Nat} (e : z = (k : Int)) (h : k < x.length) : atI (rowV x) z = some (.int (x.getD k 0)) := by rw [e]; exact row_at h
theorem rep_atz {n k : Nat} {a : V} {z : Int} (e : z = (k : Int)) (h : k < n) : atI (List.replicate n a) z = some a := by rw [e]; exact atI_nat (rep_at h)
theorem take_succ' {x : List Nat} {i : Nat} (h : i < x.length) : x.take (i + 1) = x.take i ++ [x.getD i 0] := by
  rw [List.take_succ, some_of h]; rfl
def sp_place_of (_ : Program) (_ : World) (K : PySem.W.Frag) : Sp := Pm 2 fun vs H Q => ∃ (hv lv : V) (hl : Hl) (x : List Nat), vs = [hv, lv] ∧ HlOk hl ∧ HallAt K H hv hl ∧ RowAt K H lv x ∧ x.length = hl.n ∧ Q (.int (place hl.r x : Nat)) H
/-! ### place_of -/
abbrev N_sc_place_of : List Str := ["hall", "lines", "found", "k"]
theorem sc_place_of : FnScope N_sc_place_of ["hall", "lines"] (defScope s_place_of) := ⟨rfl, rfl, rfl, by decide +kernel, rfl, by decide +kernel, by decide +kernel⟩
theorem cl_place_of {f : Addr} {fd : FuncData} (T : Tx K mg) (F : FnP K "place_of" "place_of" s_place_of f fd) (m : mg "place_of" = some (.ref f))  :
    Clb P w K mg base "place_of" 1 ["hall", "lines"] (sp_place_of P w K) := by
    refine clb_of m F (F.bindsN fun _ _ _ _ _ _ us hl => match us, hl with | [_, _], _ => rfl) (F.ok sc_place_of (fun _ _ _ _ h => by exact pm_len h) (fun cdv A outer s H vs Q E hr h => ?_))
    obtain ⟨_, hv, lv, hl, x, rfl, ok, ⟨ha, co, se, sv, sp, rfl, h1, h2, h3, h4⟩, ⟨la, rfl, hx⟩, hlen, q⟩ := h
    have n4 := ok.n4
    have r4 := ok.r4
    refine ⟨_, PSs.nox (pss_cons (ps_set (i := 2) sc_place_of.nd rfl (Or.inl rfl) pe_int)
      (pss_cons (ps_for PassesOwn.never rfl (pi_range1 (by rfl) T.m_range (pa_cons (pe_callB (lenQ K) (by rfl) T.m_len PySem.boot_len (pa_cons (pv 1) pa_nil)) pa_nil)) (pg_name (i := 3) sc_place_of.nd rfl (Or.inl rfl))
      (pss_one (ps_set (i := 2) sc_place_of.nd rfl (Or.inl rfl) (pe_op op_add (pe_op op_mul (pv 2) (pe_op op_add (pe_ix (ixT K) (pe_ix (ixT K) (pe_ix (ixT K) (pv 0) pe_int (fun _ _ => rfl)) (pv 3) (fun _ _ => rfl)) pe_int (fun _ _ => rfl)) pe_int)) (pe_ix (ixT K) (pv 1) (pv 3) (fun _ _ => rfl))))))
      (pss_one (ps_ret (pv 2))))), ?_⟩
    refine ⟨_, rfl, la, _, rfl, .inr hx, _, rfl, by omega, by rw [rowV_len]; omega, for_range (lo := 0) (n := (rowV x).length) (fun i σ H' => H' = H ∧ ∃ v, σ = [some (.ref ha), some (.ref la), some (.int (place hl.r (x.take i) : Nat)), v]) ⟨rfl, none, rfl⟩ ?_ ?_⟩
    · rintro i σ H' hi ⟨rfl, v, rfl⟩
      rw [rowV_len] at hi
      refine ⟨_, rfl, _, rfl, _, _, _, _, rfl, rfl, h1, rfl, _, rfl, _, _, _, _, rfl, rfl, h2, rep_atz (k := i) (by omega) (by omega), _, _, _, _, rfl, rfl, h3, rfl, _, _, rfl, rfl, _, _, rfl, rfl, .inr ⟨by omega, by omega⟩, _, rfl, _, rfl, _, _, _, _, rfl, rfl, hx, row_atz (k := i) (by omega) hi, _, _, rfl, rfl, rfl, some (.int (0 + (i : Int))), ?_⟩
      rw [take_succ' hi]
      have e : place hl.r (x.take i ++ [x.getD i 0]) = place hl.r (x.take i) * (hl.r + 1) + x.getD i 0 := by unfold place; rw [List.foldl_append]; rfl
      rw [e]
      simp
    · rintro σ H' ⟨rfl, v, rfl⟩
      refine ⟨_, rfl, ?_⟩
      rw [rowV_len, List.take_of_length_le (Nat.le_refl _)]
      exact q
def sp_shorter (_ : Program) (_ : World) (K : PySem.W.Frag) : Sp := Pm 2 fun vs H Q => ∃ (lv ov : V) (x o : List Nat) (r : Nat), vs = [lv, ov] ∧ RowAt K H lv x ∧ RowAt K H ov o ∧ 0 < o.length ∧ (∀ k ∈ o, k < x.length) ∧ Q (.int (sent r .two x o : Nat)) H
/-! ### shorter -/
abbrev N_sc_shorter : List Str := ["lines", "order"]
theorem sc_shorter : FnScope N_sc_shorter ["lines", "order"] (defScope s_shorter) := ⟨rfl, rfl, rfl, by decide +kernel, rfl, by decide +kernel, by decide +kernel⟩
theorem cl_shorter {f : Addr} {fd : FuncData} (T : Tx K mg) (F : FnP K "shorter" "shorter" s_shorter f fd) (m : mg "shorter" = some (.ref f))  :
    Clb P w K mg base "shorter" 1 ["lines", "order"] (sp_shorter P w K) := by
    refine clb_of m F (F.bindsN fun _ _ _ _ _ _ us hl => match us, hl with | [_, _], _ => rfl) (F.ok sc_shorter (fun _ _ _ _ h => by exact pm_len h) (fun cdv A outer s H vs Q E hr h => ?_))
    obtain ⟨_, lv, ov, x, o, r, rfl, ⟨la, rfl, hx⟩, ⟨oa, rfl, ho⟩, hlen, hmem, q⟩ := h
    have e0 : atI (rowV o) 0 = some (.int (o.getD 0 0)) := row_atz (k := 0) rfl hlen
    have m0 := hmem _ (getD_mem hlen)
    refine ⟨_, PSs.nox (pss_cons (ps_if (PW.pt (pw_and (pt_cmpR op_gt (pe_callB (lenQ K) (by rfl) T.m_len PySem.boot_len (pa_cons (pv 1) pa_nil)) pe_int (nomark _)) (pw_and1 (pt_cmpR op_lt (pe_ix (ixT K) (pv 0) (pe_ix (ixT K) (pv 1) pe_int (fun _ _ => rfl)) (fun _ _ => rfl)) (pe_ix (ixT K) (pv 0) (pe_ix (ixT K) (pv 1) pe_int (fun _ _ => rfl)) (fun _ _ => rfl)) (nomark _)))))
      (pss_one (ps_ret (pe_ix (ixT K) (pv 1) pe_int (fun _ _ => rfl))))
      pss_nil)
      (pss_one (ps_ret (pe_ix (ixT K) (pv 1) pe_int (fun _ _ => rfl))))), ?_⟩
    refine ⟨_, rfl, _, _, rfl, .inr ho, _, _, rfl, rfl, _, rfl, ite2 (fun c => ?_) (fun c => ?_)⟩
    · have c1 : 1 < o.length := by have := of_decide_eq_true c; rw [rowV_len] at this; omega
      have e1 : atI (rowV o) 1 = some (.int (o.getD 1 0)) := row_atz (k := 1) rfl c1
      have m1 := hmem _ (getD_mem c1)
      refine ⟨_, rfl, _, rfl, _, _, _, _, rfl, rfl, ho, e1, _, _, _, _, rfl, rfl, hx, row_at m1, _, rfl, _, rfl, _, _, _, _, rfl, rfl, ho, e0, _, _, _, _, rfl, rfl, hx, row_at m0, _, _, rfl, rfl, _, rfl, ite2 (fun c => ?_) (fun c => ?_)⟩
      · have c2 : x.getD (o.getD 1 0) 0 < x.getD (o.getD 0 0) 0 := by have := of_decide_eq_true c; omega
        refine ⟨_, rfl, _, _, _, _, rfl, rfl, ho, e1, ?_⟩
        have e : sent r .two x o = o.getD 1 0 := if_pos ⟨c1, c2⟩
        rw [e] at q
        exact q
      · have c2 : ¬ (x.getD (o.getD 1 0) 0 < x.getD (o.getD 0 0) 0) := fun z => c (decide_eq_true (by omega))
        refine ⟨_, rfl, _, _, _, _, rfl, rfl, ho, e0, ?_⟩
        have e : sent r .two x o = o.getD 0 0 := if_neg (fun z => c2 z.2)
        rw [e] at q
        exact q
    · have c1 : ¬ 1 < o.length := fun z => c (decide_eq_true (by rw [rowV_len]; omega))
      refine iteF ?_
      refine ⟨_, rfl, _, _, _, _, rfl, rfl, ho, e0, ?_⟩
      have e : sent r .two x o = o.getD 0 0 := if_neg (fun z => c1 z.1)
      rw [e] at q
      exact q
/-! slices, sums of rows -/
theorem cut_from (x : List Nat) (k : Nat) : cutV (rowV x) (some (k : Int)) none = rowV (x.drop k) := by
  unfold cutV
  rw [HT.sIx_none, HT.sIx_nat, rowV_len]
  unfold rowV
  rw [← List.map_drop, List.take_of_length_le (by rw [List.length_map, List.length_drop]; omega)]
  by_cases h : k ≤ x.length
  · rw [Nat.min_eq_left h]
  · have a : x.drop x.length = [] := by simp
    have b : x.drop k = [] := List.drop_of_length_le (by omega)
    rw [Nat.min_eq_right (by omega), a, b]
theorem cut_to (x : List Nat) (k : Nat) : cutV (rowV x) none (some (k : Int)) = rowV (x.take k) := by
  unfold cutV
  rw [HT.sIx_none, HT.sIx_nat, rowV_len]
  unfold rowV
  rw [List.drop_zero, ← List.map_take]
  by_cases h : k ≤ x.length
  · rw [Nat.min_eq_left h]; rfl
  · rw [Nat.min_eq_right (by omega), List.take_of_length_le (by omega), List.take_of_length_le (by omega)]
theorem cut_mid (x : List Nat) (j k : Nat) : cutV (rowV x) (some (j : Int)) (some (k : Int)) = rowV ((x.drop j).take (k - j)) := by
  unfold cutV
  rw [HT.sIx_nat, HT.sIx_nat, rowV_len]
  unfold rowV
  rw [← List.map_drop, ← List.map_take]
  congr 1
  by_cases h : j ≤ x.length
  · rw [Nat.min_eq_left h]
    by_cases h2 : k ≤ x.length
    · rw [Nat.min_eq_left h2]
    · rw [Nat.min_eq_right (by omega), List.take_of_length_le (by rw [List.length_drop]; omega), List.take_of_length_le (by rw [List.length_drop]; omega)]
  · have a : x.drop x.length = [] := by simp
    have b : x.drop j = [] := List.drop_of_length_le (by omega)
    rw [Nat.min_eq_right (by omega : x.length ≤ j), a, b]
    simp
theorem slA {H : Hp} {a : Addr} {x y : List Nat} {lo hi : Option Int} {Q : VK} (h : SqT K H a (rowV x)) (e : cutV (rowV x) lo hi = rowV y) (q : ∀ p H', Ex H H' → SqT K H' p (rowV y) → Q (.ref p) H') : rSlA K (.ref a) lo hi H Q := by
  refine ⟨a, _, rfl, h, fun c => q a H (Evl.Ex.refl H) ?_, fun _ p hp => q p _ (Evl.Ex.new hp) (SqT.of (by rw [upd_same, e]))⟩
  have e2 : cutV (rowV x) lo hi = rowV x := by
    unfold cutV
    rw [c.1, c.2]
    simp
  rw [← e, e2]
  exact h
theorem sl_row {te : TE} {tl th : TO} {σ : L2.St} {H : Hp} {a : Addr} {x y : List Nat} {lo hi : Option Int} {Q : VK} (e1 : ∀ Q : VK, Q (.ref a) H → te σ H Q) (e2 : ∀ Q : Option Int → Hp → Prop, Q lo H → tl σ H Q) (e3 : ∀ Q : Option Int → Hp → Prop, Q hi H → th σ H Q)
    (h : SqT K H a (rowV x)) (e : cutV (rowV x) lo hi = rowV y) (q : ∀ p H', Ex H H' → SqT K H' p (rowV y) → Q (.ref p) H') : tSl (rSlA K) te tl th σ H Q :=
  e1 _ (e2 _ (e3 _ (slA h e q)))
theorem rowV_app (x y : List Nat) : rowV (x ++ y) = rowV x ++ rowV y := by unfold rowV; rw [List.map_append]
theorem rowV_nil {x : List Nat} (h : rowV x = []) : x = [] := by
  unfold rowV at h
  exact List.map_eq_nil_iff.mp h
theorem catA {H : Hp} {a b : Addr} {x y : List Nat} {Q : VK} (h1 : SqT K H a (rowV x)) (h2 : SqT K H b (rowV y)) (hl : x.length + y.length ≤ 1000) (q : ∀ p H', Ex H H' → SqT K H' p (rowV (x ++ y)) → Q (.ref p) H') : rCatA K (.ref a) (.ref b) H Q := by
  refine ⟨a, b, _, _, rfl, rfl, h1, h2, by rw [rowV_len, rowV_len, sizeLine_eq]; omega, fun c => ?_, fun _ c => ?_, fun _ _ p hp => q p _ (Evl.Ex.new hp) (SqT.of (by rw [upd_same, rowV_app]))⟩
  · refine q b H (Evl.Ex.refl H) ?_
    rw [rowV_nil c, List.nil_append]; exact h2
  · refine q a H (Evl.Ex.refl H) ?_
    rw [rowV_nil c, List.append_nil]; exact h1
/-! shortest -/
theorem best_first (x : List Nat) (m : Nat) : ∀ (o : List Nat) (f : Nat), (∀ k ∈ f :: o, m ≤ x.getD k 0) → (∃ k ∈ f :: o, x.getD k 0 = m) → ∃ r, (f :: o).filter (fun k => decide (x.getD k 0 = m)) = best x f o :: r
  | [], f, _, ⟨k, hk, e⟩ => by
    simp at hk
    subst hk
    exact ⟨[], by rw [List.filter_cons, if_pos (decide_eq_true e)]; rfl⟩
  | j :: o, f, h1, ⟨k, hk, e⟩ => by
    have hf := h1 f (List.mem_cons_self ..)
    have hj := h1 j (List.mem_cons_of_mem _ (List.mem_cons_self ..))
    rw [best]
    by_cases c : x.getD f 0 = m
    · rw [if_neg (by omega)]
      obtain ⟨r, hr⟩ := best_first x m o f (fun k hk => h1 k (by rcases List.mem_cons.mp hk with z | z; exact z ▸ List.mem_cons_self ..; exact List.mem_cons_of_mem _ (List.mem_cons_of_mem _ z))) ⟨f, List.mem_cons_self .., c⟩
      rw [List.filter_cons, if_pos (decide_eq_true c)] at hr ⊢
      injection hr with hr _
      exact ⟨_, by rw [← hr]⟩
    · have hk2 : k ∈ j :: o := by
        rcases List.mem_cons.mp hk with z | z
        · subst z; exact absurd e c
        · exact z
      rw [List.filter_cons, if_neg (by simpa using c)]
      by_cases d : x.getD j 0 < x.getD f 0
      · rw [if_pos d]
        exact best_first x m o j (fun k hk => h1 k (List.mem_cons_of_mem _ hk)) ⟨k, hk2, e⟩
      · rw [if_neg d]
        have hk3 : k ∈ o := by
          rcases List.mem_cons.mp hk2 with z | z
          · subst z; omega
          · exact z
        obtain ⟨r, hr⟩ := best_first x m o f (fun k hk => h1 k (by rcases List.mem_cons.mp hk with z | z; exact z ▸ List.mem_cons_self ..; exact List.mem_cons_of_mem _ (List.mem_cons_of_mem _ z))) ⟨k, List.mem_cons_of_mem _ hk3, e⟩
        rw [List.filter_cons, if_neg (by simpa using c)] at hr
        rw [List.filter_cons, if_neg (by rw [decide_eq_true_eq]; omega)]
        exact ⟨r, hr⟩
theorem rowV_ints (x : List Nat) : rowV x = (x.map fun n : Nat => (n : Int)).map V.int := by unfold rowV; rw [List.map_map]; rfl
def sp_shortest (_ : Program) (_ : World) (K : PySem.W.Frag) : Sp := Pm 2 fun vs H Q => ∃ (lv ov : V) (x o : List Nat) (n : Nat), vs = [lv, ov] ∧ RowAt K H lv x ∧ RowAt K H ov o ∧ 0 < n ∧ n ≤ 1000 ∧ x.length = n ∧ o ∈ ords n n ∧ ∀ H', Ex H H' → Q (.int (best x (o.getD 0 0) (o.drop 1) : Nat)) H'
/-! ### shortest -/
abbrev N_sc_shortest : List Str := ["lines", "order", "fewest", "k"]
theorem sc_shortest : FnScope N_sc_shortest ["lines", "order"] (defScope s_shortest) := ⟨rfl, rfl, rfl, by decide +kernel, rfl, by decide +kernel, by decide +kernel⟩
theorem cl_shortest {f : Addr} {fd : FuncData} (T : Tx K mg) (F : FnP K "shortest" "shortest" s_shortest f fd) (m : mg "shortest" = some (.ref f))  :
    Clb P w K mg base "shortest" 1 ["lines", "order"] (sp_shortest P w K) := by
    refine clb_of m F (F.bindsN fun _ _ _ _ _ _ us hl => match us, hl with | [_, _], _ => rfl) (F.ok sc_shortest (fun _ _ _ _ h => by exact pm_len h) (fun cdv A outer s H vs Q E hr h => ?_))
    obtain ⟨_, lv, ov, x, o, n, rfl, ⟨la, rfl, hx⟩, ⟨oa, rfl, ho⟩, hn, hn9, hlen, hord, q⟩ := h
    obtain ⟨o1, o2, o3⟩ := ords_mem n n o hord
    obtain ⟨a, p, rfl⟩ := ord_head hn hord
    refine ⟨_, PSs.nox (pss_cons (ps_set (i := 2) sc_shortest.nd rfl (Or.inr rfl) (pe_callB (cr_minT rfl (hu_of hr)) (by rfl) T.m_min (by decide +kernel) (pa_cons (pv 0) pa_nil)))
      (pss_one (ps_ret (pe_ix (ixL K) (pe_lc (own := [("k", 3)]) rfl sc_shortest.nd (pi_tup (pv 1)) (blkOk_by (own := [("k", 3)]) (N := N_sc_shortest) (sc := defScope s_shortest) (by decide +kernel)) (fun _ _ _ _ _ => pg_name (i := 3) sc_shortest.nd rfl (Or.inl rfl)) (fun _ _ _ _ _ => pts_one (pt_cmpR op_eq (pe_ix (ixT K) (pv 0) (pv 3) (fun _ _ => rfl)) (pv 2) (nomark _))) (fun _ _ _ _ _ => (pv 3))) pe_int (fun _ _ => rfl))))), ?_⟩
    refine ⟨_, rfl, la, x.map (fun n : Nat => (n : Int)), rfl, by rw [← rowV_ints]; exact hx, by intro z; rw [List.map_eq_nil_iff] at z; rw [z] at hlen; simp at hlen; omega, fun m hm hle => ?_⟩
    obtain ⟨m, hm', rfl⟩ := List.mem_map.mp hm
    refine ⟨_, rfl, oa, rfl, ⟨_, ho⟩, fun D hD => lc_tup (K := K) (a := oa) (xs := rowV (a :: p)) (fun i H' => Ex H H' ∧ H' D = some (.lst (rowV (((a :: p).take i).filter fun k => decide (x.getD k 0 = m))))) ⟨Evl.Ex.new hD, upd_same⟩ (fun i H' _ h => Evl.ex_t h.1 ho) ?_ ?_⟩
    · rintro i v H' hi ⟨e, hD'⟩
      have hil : i < (a :: p).length := by
        have := (List.getElem?_eq_some_iff.mp hi).1
        rw [rowV_len] at this
        exact this
      have hv : v = .int ((a :: p).getD i 0) := by
        have := row_at hil
        unfold rowV at hi
        rw [List.getElem?_map, some_of hil] at hi
        exact (Option.some.inj hi).symm
      subst hv
      have hk := o3 _ (getD_mem hil)
      refine ⟨rfl, _, rfl, _, rfl, _, _, _, _, rfl, rfl, Evl.ex_t e hx, row_at (by omega), _, rfl, rfl, _, rfl, ?_⟩
      have ed : decide (V.int ((x.getD ((a :: p).getD i 0) 0 : Nat) : Int) = V.int (m : Int)) = decide (x.getD ((a :: p).getD i 0) 0 = m) := decide_eq_decide.mpr ⟨fun z => by injection z with z; omega, fun z => by rw [z]⟩
      rw [ed, take_succ' hil, List.filter_append]
      by_cases c : x.getD ((a :: p).getD i 0) 0 = m
      · rw [decide_eq_true c]
        refine iteT ⟨_, rfl, _, hD', ?_, Evl.Ex.mut e hD, ?_⟩
        · rw [rowV_len, sizeLine_eq]
          have := List.length_filter_le (fun k => decide (x.getD k 0 = m)) ((a :: p).take i)
          rw [List.length_take] at this
          omega
        · rw [upd_same, List.filter_cons, if_pos (decide_eq_true c), List.filter_nil, rowV_app]; rfl
      · rw [decide_eq_false c]
        refine iteF ⟨e, ?_⟩
        rw [List.filter_cons, if_neg (by simpa using c), List.filter_nil, List.append_nil]
        exact hD'
    · rintro H' ⟨e, hD'⟩
      rw [rowV_len, List.take_of_length_le (Nat.le_refl _)] at hD'
      obtain ⟨r, hr⟩ := best_first x m p a (fun k hk => by
        have hk2 := o3 k hk
        have := hle _ (List.mem_map.mpr ⟨x.getD k 0, getD_mem (by omega), rfl⟩)
        omega) (by
        obtain ⟨k, hk, e⟩ := List.mem_iff_getElem.mp hm'
        refine ⟨k, ord_all hord k (by omega), ?_⟩
        rw [← e]
        simp [List.getD, hk])
      rw [hr] at hD'
      exact ⟨_, _, _, _, rfl, rfl, SqL.of hD', (show atI (rowV (best x a p :: r)) 0 = some (.int (best x a p : Nat)) from row_atz (k := 0) rfl (by simp)), q H' e⟩
end
end K58
set_option Elab.async false
set_option linter.all false
set_option maxRecDepth 100000
set_option maxHeartbeats 4000000
set_option autoImplicit false
namespace K58
open PySem PySem.Spec PyProof.Rows L2
open Evl (Ex)
section
variable {P : Program} {w : World} {K : PySem.W.Frag} {mg : Str → Option Value} {base : Heap}
theorem frac_lt {l m t b : Nat} (ht : 0 < t) (hb : 0 < b) :
    decide ((l + 1) * b / Nat.gcd ((l + 1) * b) (1 * t) * (1 * t / Nat.gcd ((m + 1) * b) (1 * t)) < (m + 1) * b / Nat.gcd ((m + 1) * b) (1 * t) * (1 * t / Nat.gcd ((l + 1) * b) (1 * t))) = decide (l < m) := by
  rw [Nat.one_mul]
  have g1 := Nat.gcd_pos_of_pos_right ((l + 1) * b) ht
  have g2 := Nat.gcd_pos_of_pos_right ((m + 1) * b) ht
  obtain ⟨p1, e1⟩ := Nat.gcd_dvd_left ((l + 1) * b) t
  obtain ⟨q1, f1⟩ := Nat.gcd_dvd_right ((l + 1) * b) t
  obtain ⟨p2, e2⟩ := Nat.gcd_dvd_left ((m + 1) * b) t
  obtain ⟨q2, f2⟩ := Nat.gcd_dvd_right ((m + 1) * b) t
  generalize Nat.gcd ((l + 1) * b) t = g at *
  generalize Nat.gcd ((m + 1) * b) t = k at *
  have a1 : (l + 1) * b / g = p1 := by rw [e1]; exact Nat.mul_div_cancel_left _ g1
  have a2 : (m + 1) * b / k = p2 := by rw [e2]; exact Nat.mul_div_cancel_left _ g2
  have b1 : t / g = q1 := by rw [f1]; exact Nat.mul_div_cancel_left _ g1
  have b2 : t / k = q2 := by rw [f2]; exact Nat.mul_div_cancel_left _ g2
  rw [a1, a2, b1, b2]
  have hgk : 0 < g * k := Nat.mul_pos g1 g2
  have h1 : g * k * (p1 * q2) = (l + 1) * b * t := by rw [e1]; conv => rhs; rw [f2]; 
                                                      ac_rfl
  have h2 : g * k * (p2 * q1) = (m + 1) * b * t := by rw [e2]; conv => rhs; rw [f1]; 
                                                      ac_rfl
  refine decide_eq_decide.mpr ⟨fun h => ?_, fun h => ?_⟩
  · have : g * k * (p1 * q2) < g * k * (p2 * q1) := Nat.mul_lt_mul_of_pos_left h hgk
    rw [h1, h2] at this
    have := Nat.lt_of_mul_lt_mul_right this
    have := Nat.lt_of_mul_lt_mul_right this
    omega
  · refine Nat.lt_of_mul_lt_mul_left (a := g * k) ?_
    rw [h1, h2]
    exact Nat.mul_lt_mul_of_pos_right (Nat.mul_lt_mul_of_pos_right (by omega) hb) ht
theorem best_snoc (x : List Nat) : ∀ (l : List Nat) (f k : Nat), best x f (l ++ [k]) = if x.getD k 0 < x.getD (best x f l) 0 then k else best x f l
  | [], f, k => rfl
  | j :: l, f, k => by
    rw [List.cons_append, best, best]
    exact best_snoc x l _ k
def sp_quickest (_ : Program) (_ : World) (K : PySem.W.Frag) : Sp := Pm 3 fun vs H Q => ∃ (hv lv ov : V) (hl : Hl) (x o : List Nat), vs = [hv, lv, ov] ∧ HlOk hl ∧ HallAt K H hv hl ∧ RowAt K H lv x ∧ RowAt K H ov o ∧ Vl hl.n hl.r x ∧ o ∈ ords hl.n hl.n ∧
  ∀ H', Ex H H' → Q (.int (best x (o.getD 0 0) (o.drop 1) : Nat)) H'
/-! ### quickest -/
abbrev N_sc_quickest : List Str := ["hall", "lines", "order", "found", "k", "one"]
theorem sc_quickest : FnScope N_sc_quickest ["hall", "lines", "order"] (defScope s_quickest) := ⟨rfl, rfl, rfl, by decide +kernel, rfl, by decide +kernel, by decide +kernel⟩
theorem cl_quickest {f : Addr} {fd : FuncData} (T : Tx K mg) (F : FnP K "quickest" "quickest" s_quickest f fd) (m : mg "quickest" = some (.ref f)) (C_divided : Clb P w K mg base "divided" 3 ["one", "other"] (sp_divided P w K)) (C_is_less : Clb P w K mg base "is_less" 1 ["one", "other"] (sp_is_less P w K)) :
    Clb P w K mg base "quickest" 4 ["hall", "lines", "order"] (sp_quickest P w K) := by
    refine clb_of m F (F.bindsN fun _ _ _ _ _ _ us hl => match us, hl with | [_, _, _], _ => rfl) (F.ok sc_quickest (fun _ _ _ _ h => by exact pm_len h) (fun cdv A outer s H vs Q E hr h => ?_))
    obtain ⟨_, hv, lv, ov, hl, x, o, rfl, ok, ⟨ha, co, se, sv, sp, rfl, h1, h2, h3, h4⟩, ⟨la, rfl, hx⟩, ⟨oa, rfl, ho⟩, vl, hord, q⟩ := h
    obtain ⟨o1, o2, o3⟩ := ords_mem _ _ o hord
    have n0 := ok.n0
    have r4 := ok.r4
    have t0 := ok.t0
    have t9 := ok.t9
    have b9 := ok.b9
    have vlen := vl.1
    refine ⟨_, PSs.nox (pss_cons (ps_set (i := 3) sc_quickest.nd rfl (Or.inl rfl) (pe_ix (ixT K) (pv 2) pe_int (fun _ _ => rfl)))
      (pss_cons (ps_for PassesOwn.never rfl (pi_tup (pe_slice (slTA K) (pv 2) (po_some pe_int) po_none)) (pg_name (i := 4) sc_quickest.nd rfl (Or.inl rfl))
      (pss_cons (ps_set (i := 5) sc_quickest.nd rfl (Or.inl rfl) (pe_c C_divided hr (by rfl) (pa_cons (pe_tup (pa_cons (pe_op op_add (pe_ix (ixT K) (pv 1) (pv 4) (fun _ _ => rfl)) pe_int) (pa_cons pe_int pa_nil))) (pa_cons (pe_ix (ixT K) (pe_ix (ixT K) (pe_ix (ixT K) (pv 0) pe_int (fun _ _ => rfl)) (pv 4) (fun _ _ => rfl)) pe_int (fun _ _ => rfl)) pa_nil))))
      (pss_one (ps_if (pt_val (pe_c C_is_less hr (by rfl) (pa_cons (pv 5) (pa_cons (pe_c C_divided hr (by rfl) (pa_cons (pe_tup (pa_cons (pe_op op_add (pe_ix (ixT K) (pv 1) (pv 3) (fun _ _ => rfl)) pe_int) (pa_cons pe_int pa_nil))) (pa_cons (pe_ix (ixT K) (pe_ix (ixT K) (pe_ix (ixT K) (pv 0) pe_int (fun _ _ => rfl)) (pv 3) (fun _ _ => rfl)) pe_int (fun _ _ => rfl)) pa_nil))) pa_nil))) (fun _ => rfl))
      (pss_one (ps_set (i := 3) sc_quickest.nd rfl (Or.inl rfl) (pv 4)))
      pss_nil))))
      (pss_one (ps_ret (pv 3))))), ?_⟩
    refine ⟨_, rfl, _, _, _, _, rfl, rfl, ho, row_atz (k := 0) rfl (by omega), ?_⟩
    refine sl_row (te := tVar 2) (tl := tPart (tC (.int 1))) (th := tNoPart) (fun _ q => ⟨_, rfl, q⟩) (fun _ q => ⟨_, rfl, q⟩) (fun _ q => q) ho (cut_from o 1) fun p H1 e1 hp => ?_
    refine ⟨p, rfl, ⟨_, hp⟩, for_tup (K := K) (a := p) (xs := rowV (o.drop 1))
      (fun i σ H' => Ex H1 H' ∧ ∃ vk vo, σ = [some (.ref ha), some (.ref la), some (.ref oa), some (.int (best x (o.getD 0 0) ((o.drop 1).take i) : Nat)), vk, vo]) ⟨Evl.Ex.refl _, none, none, rfl⟩ (fun i σ H' _ h => Evl.ex_t h.1 hp) ?_ ?_⟩
    · rintro i v σ H' hi ⟨e2, vk, vo, rfl⟩
      have hil : i < (o.drop 1).length := by
        have := (List.getElem?_eq_some_iff.mp hi).1
        rw [rowV_len] at this
        exact this
      have hv : v = .int ((o.drop 1).getD i 0) := by
        unfold rowV at hi
        rw [List.getElem?_map, some_of hil] at hi
        exact (Option.some.inj hi).symm
      subst hv
      have hk : (o.drop 1).getD i 0 < hl.n := o3 _ (List.mem_of_mem_drop (getD_mem hil))
      have hf : best x (o.getD 0 0) ((o.drop 1).take i) < hl.n := by
        rcases best_mem x ((o.drop 1).take i) (o.getD 0 0) with z | z
        · rw [z]; exact o3 _ (getD_mem (by omega))
        · exact o3 _ (List.mem_of_mem_drop (List.mem_of_mem_take z))
      rw [take_succ' hil, best_snoc]
      generalize (o.drop 1).getD i 0 = k at *
      generalize best x (o.getD 0 0) ((o.drop 1).take i) = g at *
      have xk := vl.2 _ (getD_mem (o := x) (i := k) (by omega))
      have xg := vl.2 _ (getD_mem (o := x) (i := g) (by omega))
      have e := e1.trans e2
      refine ⟨_, rfl, _, rfl, _, _, _, _, rfl, rfl, Evl.ex_t e hx, row_at (by omega), _, _, rfl, rfl, by show 2 ≤ sizeLine; decide, fun p1 hp1 => ?_⟩
      have e3 := e.trans (Evl.Ex.new (o := .tup [.int ((x.getD k 0 : Nat) + 1), .int 1]) hp1)
      refine ⟨_, rfl, _, _, _, _, rfl, rfl, Evl.ex_t e3 h1, rfl, _, rfl, _, _, _, _, rfl, rfl, Evl.ex_t e3 h2, rep_atz rfl hk, _, _, _, _, rfl, rfl, Evl.ex_t e3 h3, rfl, rfl, _, _, x.getD k 0 + 1, 1, hl.t, hl.b, rfl, ⟨_, rfl, SqT.of upd_same⟩, ⟨_, rfl, Evl.ex_t e3 h4⟩, by decide, t0, by omega, by decide, by omega, by omega, fun one H2 e4 hone => ?_⟩
      have e5 := e3.trans e4
      refine ⟨_, rfl, _, rfl, _, rfl, _, _, _, _, rfl, rfl, Evl.ex_t e5 hx, row_at (by omega), _, _, rfl, rfl, by show 2 ≤ sizeLine; decide, fun p2 hp2 => ?_⟩
      have e6 := Evl.Ex.new (o := .tup [.int ((x.getD g 0 : Nat) + 1), .int 1]) hp2
      have e7 := e5.trans e6
      refine ⟨_, rfl, _, _, _, _, rfl, rfl, Evl.ex_t e7 h1, rfl, _, rfl, _, _, _, _, rfl, rfl, Evl.ex_t e7 h2, rep_atz rfl hf, _, _, _, _, rfl, rfl, Evl.ex_t e7 h3, rfl, rfl, _, _, x.getD g 0 + 1, 1, hl.t, hl.b, rfl, ⟨_, rfl, SqT.of upd_same⟩, ⟨_, rfl, Evl.ex_t e7 h4⟩, by decide, t0, by omega, by decide, by omega, by omega, fun two H3 e8 htwo => ?_⟩
      have b1 : (x.getD k 0 + 1) * hl.b / Nat.gcd ((x.getD k 0 + 1) * hl.b) (1 * hl.t) ≤ 100000000 := Nat.le_trans (Nat.div_le_self _ _) (Nat.le_trans (Nat.mul_le_mul (show x.getD k 0 + 1 ≤ 10000 by omega) b9) (by decide))
      have b2 : (x.getD g 0 + 1) * hl.b / Nat.gcd ((x.getD g 0 + 1) * hl.b) (1 * hl.t) ≤ 100000000 := Nat.le_trans (Nat.div_le_self _ _) (Nat.le_trans (Nat.mul_le_mul (show x.getD g 0 + 1 ≤ 10000 by omega) b9) (by decide))
      refine ⟨rfl, _, _, _, _, _, _, rfl, hone.ex (e6.trans e8), htwo, b1, b2, _, rfl, ?_⟩
      rw [frac_lt t0 ok.b0]
      have ee : Ex H1 H3 := e2.trans ((Evl.Ex.new (o := .tup [.int ((x.getD k 0 : Nat) + 1), .int 1]) hp1).trans (e4.trans (e6.trans e8)))
      by_cases c : x.getD k 0 < x.getD g 0
      · rw [decide_eq_true c, if_pos c]
        exact iteT ⟨_, rfl, ee, _, _, rfl⟩
      · rw [decide_eq_false c, if_neg c]
        exact iteF ⟨ee, _, _, rfl⟩
    · rintro σ H' ⟨e2, vk, vo, rfl⟩
      rw [rowV_len, List.take_of_length_le (Nat.le_refl _)]
      exact ⟨_, rfl, q H' (e1.trans e2)⟩
def sp_sent_to (_ : Program) (_ : World) (K : PySem.W.Frag) : Sp := Pm 4 fun vs H Q => ∃ (hv rv sv ov : V) (hl : Hl) (R : Rl) (x o : List Nat), vs = [hv, rv, sv, ov] ∧ HlOk hl ∧ HallAt K H hv hl ∧ RuleAt K H rv R ∧ StandAt K H sv x ∧ RowAt K H ov o ∧ RlOk hl.n hl.r R ∧ Vl hl.n hl.r x ∧ o ∈ ords hl.n hl.n ∧
  ∀ H', Ex H H' → Q (.int (sent hl.r R x o : Nat)) H'
theorem dT {x : Str} : decide (V.str x = V.str x) = true := decide_eq_true rfl
/-! ### sent_to -/
abbrev N_sc_sent_to : List Str := ["hall", "rule", "stand", "order", "lines", "turn"]
theorem sc_sent_to : FnScope N_sc_sent_to ["hall", "rule", "stand", "order"] (defScope s_sent_to) := ⟨rfl, rfl, rfl, by decide +kernel, rfl, by decide +kernel, by decide +kernel⟩
theorem cl_sent_to {f : Addr} {fd : FuncData} (T : Tx K mg) (F : FnP K "sent_to" "sent_to" s_sent_to f fd) (m : mg "sent_to" = some (.ref f)) (C_place_of : Clb P w K mg base "place_of" 1 ["hall", "lines"] (sp_place_of P w K)) (C_quickest : Clb P w K mg base "quickest" 4 ["hall", "lines", "order"] (sp_quickest P w K)) (C_shorter : Clb P w K mg base "shorter" 1 ["lines", "order"] (sp_shorter P w K)) (C_shortest : Clb P w K mg base "shortest" 1 ["lines", "order"] (sp_shortest P w K)) :
    Clb P w K mg base "sent_to" 5 ["hall", "rule", "stand", "order"] (sp_sent_to P w K) := by
    refine clb_of m F (F.bindsN fun _ _ _ _ _ _ us hl => match us, hl with | [_, _, _, _], _ => rfl) (F.ok sc_sent_to (fun _ _ _ _ h => by exact pm_len h) (fun cdv A outer s H vs Q E hr h => ?_))
    obtain ⟨_, hv, rv, sv, ov, hl, R, x, o, rfl, ok, hH, hR, ⟨sa, la, rfl, hs, hx⟩, ⟨oa, rfl, ho⟩, rok, vl, hord, q⟩ := h
    obtain ⟨o1, o2, o3⟩ := ords_mem _ _ o hord
    have n0 := ok.n0
    have n4 := ok.n4
    have vlen := vl.1
    refine ⟨_, PSs.nox (pss_cons (ps_asg (pv 2) (pg_tupQ (n := 2) K rfl (pgs_cons (pg_name (i := 4) sc_sent_to.nd rfl (Or.inl rfl)) (pgs_cons (pg_name (i := 5) sc_sent_to.nd rfl (Or.inl rfl)) pgs_nil))))
      (pss_cons (ps_if (pt_cmpR op_eq (pe_ix (ixT K) (pv 1) pe_int (fun _ _ => rfl)) pe_str (nomark _))
      (pss_one (ps_ret (pe_ix (ixT K) (pv 3) pe_int (fun _ _ => rfl))))
      pss_nil)
      (pss_cons (ps_if (pt_cmpR op_eq (pe_ix (ixT K) (pv 1) pe_int (fun _ _ => rfl)) pe_str (nomark _))
      (pss_one (ps_ret (pv 5)))
      pss_nil)
      (pss_cons (ps_if (pt_cmpR op_eq (pe_ix (ixT K) (pv 1) pe_int (fun _ _ => rfl)) pe_str (nomark _))
      (pss_one (ps_ret (pe_c C_shorter hr (by rfl) (pa_cons (pv 4) (pa_cons (pv 3) pa_nil)))))
      pss_nil)
      (pss_cons (ps_if (pt_cmpR op_eq (pe_ix (ixT K) (pv 1) pe_int (fun _ _ => rfl)) pe_str (nomark _))
      (pss_one (ps_ret (pe_c C_shortest hr (by rfl) (pa_cons (pv 4) (pa_cons (pv 3) pa_nil)))))
      pss_nil)
      (pss_cons (ps_if (pt_cmpR op_eq (pe_ix (ixT K) (pv 1) pe_int (fun _ _ => rfl)) pe_str (nomark _))
      (pss_one (ps_ret (pe_c C_quickest hr (by rfl) (pa_cons (pv 0) (pa_cons (pv 4) (pa_cons (pv 3) pa_nil))))))
      pss_nil)
      (pss_one (ps_ret (pe_ix (ixT K) (pe_ix (ixT K) (pv 1) pe_int (fun _ _ => rfl)) (pe_c C_place_of hr (by rfl) (pa_cons (pv 0) (pa_cons (pv 4) pa_nil))) (fun _ _ => rfl)))))))))), ?_⟩
    refine ⟨_, rfl, sa, _, rfl, hs, rfl, _, _, rfl, _, _, rfl, rfl, ?_⟩
    cases R with
    | random =>
      obtain ⟨ra, rfl, h1⟩ := hR
      refine ⟨_, rfl, _, _, _, _, rfl, rfl, h1, rfl, rfl, _, rfl, ?_⟩
      rw [dT]
      refine iteT ⟨_, rfl, _, _, _, _, rfl, rfl, ho, row_atz (k := 0) rfl (by omega), q H (Evl.Ex.refl H)⟩
    | two =>
      obtain ⟨ra, rfl, h1⟩ := hR
      refine ⟨_, rfl, _, _, _, _, rfl, rfl, h1, rfl, rfl, _, rfl, ?_⟩
      rw [show decide (V.str "two" = V.str "random") = false by decide +kernel]
      refine iteF ⟨_, rfl, _, _, _, _, rfl, rfl, h1, rfl, rfl, _, rfl, ?_⟩
      rw [show decide (V.str "two" = V.str "turns") = false by decide +kernel]
      refine iteF ⟨_, rfl, _, _, _, _, rfl, rfl, h1, rfl, rfl, _, rfl, ?_⟩
      rw [dT]
      exact iteT ⟨_, rfl, _, rfl, rfl, _, _, x, o, hl.r, rfl, ⟨la, rfl, hx⟩, ⟨oa, rfl, ho⟩, by omega, fun k hk => by have := o3 k hk; omega, q H (Evl.Ex.refl H)⟩
    | least =>
      obtain ⟨ra, rfl, h1⟩ := hR
      refine ⟨_, rfl, _, _, _, _, rfl, rfl, h1, rfl, rfl, _, rfl, ?_⟩
      rw [show decide (V.str "least" = V.str "random") = false by decide +kernel]
      refine iteF ⟨_, rfl, _, _, _, _, rfl, rfl, h1, rfl, rfl, _, rfl, ?_⟩
      rw [show decide (V.str "least" = V.str "turns") = false by decide +kernel]
      refine iteF ⟨_, rfl, _, _, _, _, rfl, rfl, h1, rfl, rfl, _, rfl, ?_⟩
      rw [show decide (V.str "least" = V.str "two") = false by decide +kernel]
      refine iteF ⟨_, rfl, _, _, _, _, rfl, rfl, h1, rfl, rfl, _, rfl, ?_⟩
      rw [dT]
      exact iteT ⟨_, rfl, _, rfl, rfl, _, _, x, o, hl.n, rfl, ⟨la, rfl, hx⟩, ⟨oa, rfl, ho⟩, n0, by omega, vlen, hord, q⟩
    | quick =>
      obtain ⟨ra, rfl, h1⟩ := hR
      refine ⟨_, rfl, _, _, _, _, rfl, rfl, h1, rfl, rfl, _, rfl, ?_⟩
      rw [show decide (V.str "quick" = V.str "random") = false by decide +kernel]
      refine iteF ⟨_, rfl, _, _, _, _, rfl, rfl, h1, rfl, rfl, _, rfl, ?_⟩
      rw [show decide (V.str "quick" = V.str "turns") = false by decide +kernel]
      refine iteF ⟨_, rfl, _, _, _, _, rfl, rfl, h1, rfl, rfl, _, rfl, ?_⟩
      rw [show decide (V.str "quick" = V.str "two") = false by decide +kernel]
      refine iteF ⟨_, rfl, _, _, _, _, rfl, rfl, h1, rfl, rfl, _, rfl, ?_⟩
      rw [show decide (V.str "quick" = V.str "least") = false by decide +kernel]
      refine iteF ⟨_, rfl, _, _, _, _, rfl, rfl, h1, rfl, rfl, _, rfl, ?_⟩
      rw [dT]
      exact iteT ⟨_, rfl, _, rfl, _, rfl, rfl, _, _, _, hl, x, o, rfl, ok, hH, ⟨la, rfl, hx⟩, ⟨oa, rfl, ho⟩, vl, hord, q⟩
    | told ps =>
      obtain ⟨ra, pa, rfl, h1, h2⟩ := hR
      refine ⟨_, rfl, _, _, _, _, rfl, rfl, h1, rfl, rfl, _, rfl, ?_⟩
      rw [show decide (V.str "told" = V.str "random") = false by decide +kernel]
      refine iteF ⟨_, rfl, _, _, _, _, rfl, rfl, h1, rfl, rfl, _, rfl, ?_⟩
      rw [show decide (V.str "told" = V.str "turns") = false by decide +kernel]
      refine iteF ⟨_, rfl, _, _, _, _, rfl, rfl, h1, rfl, rfl, _, rfl, ?_⟩
      rw [show decide (V.str "told" = V.str "two") = false by decide +kernel]
      refine iteF ⟨_, rfl, _, _, _, _, rfl, rfl, h1, rfl, rfl, _, rfl, ?_⟩
      rw [show decide (V.str "told" = V.str "least") = false by decide +kernel]
      refine iteF ⟨_, rfl, _, _, _, _, rfl, rfl, h1, rfl, rfl, _, rfl, ?_⟩
      rw [show decide (V.str "told" = V.str "quick") = false by decide +kernel]
      refine iteF ⟨_, rfl, _, _, _, _, rfl, rfl, h1, rfl, _, rfl, _, rfl, rfl, _, _, hl, x, rfl, ok, hH, ⟨la, rfl, hx⟩, vlen, _, _, _, _, rfl, rfl, h2, row_at (by rw [rok.1]; exact place_lt vl), q H (Evl.Ex.refl H)⟩
end
end K58
set_option Elab.async false
set_option linter.all false
set_option maxRecDepth 100000
set_option maxHeartbeats 4000000
set_option autoImplicit false
namespace K58
open PySem PySem.Spec PyProof.Rows L2
open Evl (Ex)
section
variable {P : Program} {w : World} {K : PySem.W.Frag} {mg : Str → Option Value} {base : Heap}
def sp_is_whole (_ : Program) (_ : World) (K : PySem.W.Frag) : Sp := Pm 1 fun vs H Q => ∃ (i : Int), vs = [.int i] ∧ Q (.bl true) H
/-! ### is_whole -/
abbrev N_sc_is_whole : List Str := ["thing"]
theorem sc_is_whole : FnScope N_sc_is_whole ["thing"] (defScope s_is_whole) := ⟨rfl, rfl, rfl, by decide +kernel, rfl, by decide +kernel, by decide +kernel⟩
theorem cl_is_whole {f : Addr} {fd : FuncData} (T : Tx K mg) (F : FnP K "is_whole" "is_whole" s_is_whole f fd) (m : mg "is_whole" = some (.ref f))  :
    Clb P w K mg base "is_whole" 1 ["thing"] (sp_is_whole P w K) := by
    refine clb_of m F (F.bindsN fun _ _ _ _ _ _ us hl => match us, hl with | [_], _ => rfl) (F.ok sc_is_whole (fun _ _ _ _ h => by exact pm_len h) (fun cdv A outer s H vs Q E hr h => ?_))
    obtain ⟨_, i, rfl, q⟩ := h
    refine ⟨_, PSs.nox (pss_one (ps_ret (pe_and (pe_callB call_isi (by rfl) T.m_isinstance (by decide +kernel) (pa_cons (pv 0) (pa_cons (pe_bltn (v := .ty "int") (u := .type "int") (by rfl) T.m_int (by decide +kernel) rfl) pa_nil))) (pe_one (pe_not (pe_callB call_isi (by rfl) T.m_isinstance (by decide +kernel) (pa_cons (pv 0) (pa_cons (pe_bltn (v := .ty "bool") (u := .type "bool") (by rfl) T.m_bool (by decide +kernel) rfl) pa_nil)))))))), ?_⟩
    refine ⟨_, rfl, _, _, _, _, _, rfl, .ty _, .base (.int _), kit_ty (r := true) (by decide +kernel), true, rfl, ?_⟩
    refine iteT ?_
    refine ⟨_, rfl, _, _, _, _, _, rfl, .ty _, .base (.int _), kit_ty (r := false) (by decide +kernel), false, rfl, ?_⟩
    exact q
def sp_is_line (_ : Program) (_ : World) (K : PySem.W.Frag) : Sp := Pm 2 fun vs H Q => ∃ (hv : V) (hl : Hl), vs = [hv, .int 0] ∧ HlOk hl ∧ HallAt K H hv hl ∧ Q (.bl true) H
/-! ### is_line -/
abbrev N_sc_is_line : List Str := ["hall", "thing"]
theorem sc_is_line : FnScope N_sc_is_line ["hall", "thing"] (defScope s_is_line) := ⟨rfl, rfl, rfl, by decide +kernel, rfl, by decide +kernel, by decide +kernel⟩
theorem cl_is_line {f : Addr} {fd : FuncData} (T : Tx K mg) (F : FnP K "is_line" "is_line" s_is_line f fd) (m : mg "is_line" = some (.ref f)) (C_is_whole : Clb P w K mg base "is_whole" 1 ["thing"] (sp_is_whole P w K)) :
    Clb P w K mg base "is_line" 2 ["hall", "thing"] (sp_is_line P w K) := by
    refine clb_of m F (F.bindsN fun _ _ _ _ _ _ us hl => match us, hl with | [_, _], _ => rfl) (F.ok sc_is_line (fun _ _ _ _ h => by exact pm_len h) (fun cdv A outer s H vs Q E hr h => ?_))
    obtain ⟨_, hv, hl, rfl, ok, ⟨ha, co, se, sv, sp, rfl, h1, h2, h3, h4⟩, q⟩ := h
    have n0 := ok.n0
    refine ⟨_, PSs.nox (pss_one (ps_ret (pe_and (pe_c C_is_whole hr (by rfl) (pa_cons (pv 1) pa_nil)) (pe_one (pe_chain op_le op_lt pe_int (pv 1) (pe_callB (lenQ K) (by rfl) T.m_len PySem.boot_len (pa_cons (pe_ix (ixT K) (pv 0) pe_int (fun _ _ => rfl)) pa_nil))))))), ?_⟩
    refine ⟨_, rfl, rfl, _, rfl, true, rfl, ?_⟩
    refine iteT ?_
    refine ⟨_, rfl, _, _, rfl, rfl, _, rfl, ?_⟩
    refine iteT ?_
    refine ⟨_, rfl, _, _, _, _, rfl, rfl, h1, rfl, se, _, rfl, .inr h2, _, _, rfl, rfl, ?_⟩
    rw [List.length_replicate]
    show Q (.bl (decide ((0 : Int) < (hl.n : Int)))) H
    rw [decide_eq_true (by omega)]
    exact q
def sp_is_alike (_ : Program) (_ : World) (K : PySem.W.Frag) : Sp := Pm 1 fun vs H Q => ∃ (hv : V) (hl : Hl), vs = [hv] ∧ HlOk hl ∧ HallAt K H hv hl ∧ ∀ H', Ex H H' → Q (.bl true) H'
def dSrv (hl : Hl) : PyData := .tuple [.tuple [.int hl.t, .int hl.b], .int hl.r]
theorem srv_dp {H : Hp} {sv sp : Addr} {hl : Hl} (h3 : SqT K H sv [.ref sp, .int hl.r]) (h4 : SqT K H sp [.int hl.t, .int hl.b]) : Dp K H (.ref sv) (dSrv hl) :=
  .tup h3 (.cons (.tup h4 (.cons (.int _) (.cons (.int _) .nil))) (.cons (.int _) .nil))
theorem srv_eq (hl : Hl) : PyData.eqv (dSrv hl) (dSrv hl) = true := SeqAt.eqv_refl _ rfl
theorem rep_v {n i : Nat} {a v : V} (h : (List.replicate n a)[i]? = some v) : v = a := by
  rw [List.getElem?_replicate] at h
  split at h
  · exact (Option.some.inj h).symm
  · cases h
/-! ### is_alike -/
abbrev N_sc_is_alike : List Str := ["hall", "server"]
theorem sc_is_alike : FnScope N_sc_is_alike ["hall"] (defScope s_is_alike) := ⟨rfl, rfl, rfl, by decide +kernel, rfl, by decide +kernel, by decide +kernel⟩
theorem cl_is_alike {f : Addr} {fd : FuncData} (T : Tx K mg) (F : FnP K "is_alike" "is_alike" s_is_alike f fd) (m : mg "is_alike" = some (.ref f))  :
    Clb P w K mg base "is_alike" 1 ["hall"] (sp_is_alike P w K) := by
    refine clb_of m F (F.bindsN fun _ _ _ _ _ _ us hl => match us, hl with | [_], _ => rfl) (F.ok sc_is_alike (fun _ _ _ _ h => by exact pm_len h) (fun cdv A outer s H vs Q E hr h => ?_))
    obtain ⟨_, hv, hl, rfl, ok, ⟨ha, co, se, sv, sp, rfl, h1, h2, h3, h4⟩, q⟩ := h
    have n0 := ok.n0
    have n4 := ok.n4
    refine ⟨_, PSs.nox (pss_one (ps_ret (pe_callB (cr_all rfl) (by rfl) T.m_all (by decide +kernel) (pa_cons (pe_lc (own := [("server", 1)]) rfl sc_is_alike.nd (pi_tup (pe_ix (ixT K) (pv 0) pe_int (fun _ _ => rfl))) (blkOk_by (own := [("server", 1)]) (N := N_sc_is_alike) (sc := defScope s_is_alike) (by decide +kernel)) (fun _ _ _ _ _ => pg_name (i := 1) sc_is_alike.nd rfl (Or.inl rfl)) (fun _ _ _ _ _ => pts_nil) (fun _ _ _ _ _ => (pe_cmpR (eqD K hr.units) (pv 1) (pe_ix (ixT K) (pe_ix (ixT K) (pv 0) pe_int (fun _ _ => rfl)) pe_int (fun _ _ => rfl)) (nomark _)))) pa_nil)))), ?_⟩
    refine ⟨_, rfl, _, _, _, _, rfl, rfl, h1, rfl, se, rfl, ⟨_, h2⟩, fun D hD => lc_tup (K := K) (a := se) (xs := List.replicate hl.n (.ref sv)) (fun i H' => Ex H H' ∧ H' D = some (.lst (List.replicate i (.bl true)))) ⟨Evl.Ex.new hD, upd_same⟩ (fun i H' _ h => Evl.ex_t h.1 h2) ?_ ?_⟩
    · rintro i v H' hi ⟨e, hD'⟩
      obtain rfl := rep_v hi
      refine ⟨rfl, ?_⟩
      dsimp only [tYes]
      refine iteT ?_
      refine ⟨_, rfl, _, rfl, _, _, _, _, rfl, rfl, Evl.ex_t e h1, rfl, _, _, _, _, rfl, rfl, Evl.ex_t e h2, rep_atz (k := 0) rfl n0, dSrv hl, dSrv hl, srv_dp (Evl.ex_t e h3) (Evl.ex_t e h4), srv_dp (Evl.ex_t e h3) (Evl.ex_t e h4), rfl, rfl, _, hD', ?_, Evl.Ex.mut e hD, ?_⟩
      · rw [List.length_replicate, sizeLine_eq]
        have := (List.getElem?_eq_some_iff.mp hi).1
        rw [List.length_replicate] at this
        omega
      · rw [upd_same, srv_eq, List.replicate_succ']
    · rintro H' ⟨e, hD'⟩
      rw [List.length_replicate] at hD'
      refine ⟨D, List.replicate hl.n true, rfl, SqL.of (by rw [hD', List.map_replicate]), ?_⟩
      rw [show (List.replicate hl.n true).all id = true by rw [List.all_eq_true]; intro b hb; exact (List.mem_replicate.mp hb).2]
      exact q H' e
def sp_first_stand (_ : Program) (_ : World) (K : PySem.W.Frag) : Sp := Pm 1 fun vs H Q => ∃ (hv : V) (hl : Hl), vs = [hv] ∧ HlOk hl ∧ HallAt K H hv hl ∧ ∀ v H', Ex H H' → StandAt K H' v (void hl.n) → Q v H'
theorem rowV_void (n : Nat) : rowV (void n) = List.replicate n (.int 0) := by unfold rowV void; rw [List.map_replicate]; rfl
/-! ### first_stand -/
abbrev N_sc_first_stand : List Str := ["hall", "server"]
theorem sc_first_stand : FnScope N_sc_first_stand ["hall"] (defScope s_first_stand) := ⟨rfl, rfl, rfl, by decide +kernel, rfl, by decide +kernel, by decide +kernel⟩
theorem cl_first_stand {f : Addr} {fd : FuncData} (T : Tx K mg) (F : FnP K "first_stand" "first_stand" s_first_stand f fd) (m : mg "first_stand" = some (.ref f))  :
    Clb P w K mg base "first_stand" 1 ["hall"] (sp_first_stand P w K) := by
    refine clb_of m F (F.bindsN fun _ _ _ _ _ _ us hl => match us, hl with | [_], _ => rfl) (F.ok sc_first_stand (fun _ _ _ _ h => by exact pm_len h) (fun cdv A outer s H vs Q E hr h => ?_))
    obtain ⟨_, hv, hl, rfl, ok, ⟨ha, co, se, sv, sp, rfl, h1, h2, h3, h4⟩, q⟩ := h
    have n0 := ok.n0
    have n4 := ok.n4
    refine ⟨_, PSs.nox (pss_one (ps_ret (pe_tup (pa_cons (pe_callTy call_tuple_of (by rfl) T.m_tuple (by decide +kernel) (pa_cons (pe_lc (own := [("server", 1)]) rfl sc_first_stand.nd (pi_tup (pe_ix (ixT K) (pv 0) pe_int (fun _ _ => rfl))) (blkOk_by (own := [("server", 1)]) (N := N_sc_first_stand) (sc := defScope s_first_stand) (by decide +kernel)) (fun _ _ _ _ _ => pg_name (i := 1) sc_first_stand.nd rfl (Or.inl rfl)) (fun _ _ _ _ _ => pts_nil) (fun _ _ _ _ _ => pe_int)) pa_nil)) (pa_cons pe_int pa_nil))))), ?_⟩
    refine ⟨_, rfl, _, _, _, _, rfl, rfl, h1, rfl, se, rfl, ⟨_, h2⟩, fun D hD => lc_tup (K := K) (a := se) (xs := List.replicate hl.n (.ref sv)) (fun i H' => Ex H H' ∧ H' D = some (.lst (List.replicate i (.int 0)))) ⟨Evl.Ex.new hD, upd_same⟩ (fun i H' _ h => Evl.ex_t h.1 h2) ?_ ?_⟩
    · rintro i v H' hi ⟨e, hD'⟩
      refine ⟨rfl, ?_⟩
      dsimp only [tYes]
      refine iteT ?_
      refine ⟨_, hD', ?_, Evl.Ex.mut e hD, ?_⟩
      · rw [List.length_replicate, sizeLine_eq]
        have := (List.getElem?_eq_some_iff.mp hi).1
        rw [List.length_replicate] at this
        omega
      · rw [upd_same, List.replicate_succ']
    · rintro H' ⟨e, hD'⟩
      rw [List.length_replicate] at hD'
      refine ⟨D, _, rfl, .inl ⟨SqL.of hD', fun l hl' => ?_⟩⟩
      refine ⟨by show 2 ≤ sizeLine; decide, fun p hp => ?_⟩
      have e1 := Evl.Ex.new (o := .tup (List.replicate hl.n (V.int 0))) hl'
      have e2 := Evl.Ex.new (o := .tup [.ref l, .int 0]) hp
      refine q _ _ ((e.trans e1).trans e2) ⟨p, l, rfl, SqT.of upd_same, Evl.ex_t e2 (SqT.of (by rw [upd_same, rowV_void]))⟩
def sp_lines_with (_ : Program) (_ : World) (K : PySem.W.Frag) : Sp := Pm 3 fun vs H Q => ∃ (lv : V) (x : List Nat) (k : Nat) (m : Int) (y : Nat), vs = [lv, .int k, .int m] ∧ RowAt K H lv x ∧ k < x.length ∧ x.length ≤ 100 ∧ (x.getD k 0 : Nat) + m = (y : Int) ∧ ∀ v H', Ex H H' → RowAt K H' v (x.set k y) → Q v H'
theorem set_cut {x : List Nat} {k y : Nat} (h : k < x.length) : x.take k ++ [y] ++ x.drop (k + 1) = x.set k y := by
  rw [List.set_eq_take_append_cons_drop, if_pos h]
  simp
/-! ### lines_with -/
abbrev N_sc_lines_with : List Str := ["lines", "k", "many"]
theorem sc_lines_with : FnScope N_sc_lines_with ["lines", "k", "many"] (defScope s_lines_with) := ⟨rfl, rfl, rfl, by decide +kernel, rfl, by decide +kernel, by decide +kernel⟩
theorem cl_lines_with {f : Addr} {fd : FuncData} (T : Tx K mg) (F : FnP K "lines_with" "lines_with" s_lines_with f fd) (m : mg "lines_with" = some (.ref f))  :
    Clb P w K mg base "lines_with" 1 ["lines", "k", "many"] (sp_lines_with P w K) := by
    refine clb_of m F (F.bindsN fun _ _ _ _ _ _ us hl => match us, hl with | [_, _, _], _ => rfl) (F.ok sc_lines_with (fun _ _ _ _ h => by exact pm_len h) (fun cdv A outer s H vs Q E hr h => ?_))
    obtain ⟨_, lv, x, k, m, y, rfl, ⟨la, rfl, hx⟩, hk, hl, hy, q⟩ := h
    refine ⟨_, PSs.nox (pss_one (ps_ret (pe_op (catT K) (pe_op (catT K) (pe_slice (slTA K) (pv 0) po_none (po_some (pv 1))) (pe_tup (pa_cons (pe_op op_add (pe_ix (ixT K) (pv 0) (pv 1) (fun _ _ => rfl)) (pv 2)) pa_nil))) (pe_slice (slTA K) (pv 0) (po_some (pe_op op_add (pv 1) pe_int)) po_none)))), ?_⟩
    refine sl_row (te := tVar 0) (tl := tNoPart) (th := tPart (tVar 1)) (fun _ q => ⟨_, rfl, q⟩) (fun _ q => q) (fun _ q => ⟨_, rfl, _, rfl, q⟩) hx (cut_to x k) fun p1 H1 e1 h1 => ?_
    refine ⟨_, rfl, _, rfl, _, _, _, _, rfl, rfl, Evl.ex_t e1 hx, row_at hk, _, rfl, _, _, rfl, rfl, by show 1 ≤ sizeLine; decide, fun p2 hp2 => ?_⟩
    have e2 := Evl.Ex.new (o := .tup [.int ((x.getD k 0 : Nat) + m)]) hp2
    refine catA (x := x.take k) (y := [y]) (Evl.ex_t e2 h1) (SqT.of (by rw [upd_same]; show some (HO.tup [V.int ((x.getD k 0 : Nat) + m)]) = _; rw [hy]; rfl)) (by rw [List.length_take]; simp; omega) fun p3 H3 e3 h3 => ?_
    refine sl_row (te := tVar 0) (tl := tPart (tOp (rI0 fun i j => .int (i + j)) (tVar 1) (tC (.int 1)))) (th := tNoPart) (lo := some ((k + 1 : Nat) : Int)) (fun _ q => ⟨_, rfl, q⟩) (fun _ q => ⟨_, rfl, _, _, rfl, rfl, _, rfl, q⟩) (fun _ q => q) (Evl.ex_t ((e1.trans e2).trans e3) hx) (cut_from x (k + 1)) fun p4 H4 e4 h4 => ?_
    refine catA (Evl.ex_t e4 h3) h4 (by rw [List.length_append, List.length_take, List.length_drop]; simp; omega) fun p5 H5 e5 h5 => ?_
    rw [set_cut hk] at h5
    exact q _ _ ((((e1.trans e2).trans e3).trans e4).trans e5) ⟨p5, rfl, h5⟩
end
end K58
set_option Elab.async false
set_option linter.all false
set_option maxRecDepth 100000
set_option maxHeartbeats 4000000
set_option autoImplicit false
namespace K58
open PySem PySem.Spec PyProof.Rows L2
open Evl (Ex)
section
variable {P : Program} {w : World} {K : PySem.W.Frag} {mg : Str → Option Value} {base : Heap}
theorem row_v {x : List Nat} {i : Nat} {v : V} (h : (rowV x)[i]? = some v) : i < x.length ∧ v = .int (x.getD i 0) := by
  have hi := (List.getElem?_eq_some_iff.mp h).1
  rw [rowV_len] at hi
  refine ⟨hi, ?_⟩
  unfold rowV at h
  rw [List.getElem?_map, some_of hi] at h
  exact (Option.some.inj h).symm
def sp_are_lines (_ : Program) (_ : World) (K : PySem.W.Frag) : Sp := Pm 2 fun vs H Q => ∃ (hv lv : V) (hl : Hl) (x : List Nat), vs = [hv, lv] ∧ HlOk hl ∧ HallAt K H hv hl ∧ RowAt K H lv x ∧ Vl hl.n hl.r x ∧ ∀ H', Ex H H' → Q (.bl true) H'
/-! ### are_lines -/
abbrev N_sc_are_lines : List Str := ["hall", "thing", "one", "server"]
theorem sc_are_lines : FnScope N_sc_are_lines ["hall", "thing"] (defScope s_are_lines) := ⟨rfl, rfl, rfl, by decide +kernel, rfl, by decide +kernel, by decide +kernel⟩
theorem cl_are_lines {f : Addr} {fd : FuncData} (T : Tx K mg) (F : FnP K "are_lines" "are_lines" s_are_lines f fd) (m : mg "are_lines" = some (.ref f))  :
    Clb P w K mg base "are_lines" 1 ["hall", "thing"] (sp_are_lines P w K) := by
    refine clb_of m F (F.bindsN fun _ _ _ _ _ _ us hl => match us, hl with | [_, _], _ => rfl) (F.ok sc_are_lines (fun _ _ _ _ h => by exact pm_len h) (fun cdv A outer s H vs Q E hr h => ?_))
    obtain ⟨_, hv, lv, hl, x, rfl, ok, ⟨ha, co, se, sv, sp, rfl, h1, h2, h3, h4⟩, ⟨la, rfl, hx⟩, vl, q⟩ := h
    have vlen := vl.1
    have el : (rowV x).length = (List.replicate hl.n (V.ref sv)).length := by rw [rowV_len, List.length_replicate, vlen]
    refine ⟨_, PSs.nox (pss_cons (ps_if (PW.pt (pw_or (pt_not (pt_val (pe_callB call_isi (by rfl) T.m_isinstance (by decide +kernel) (pa_cons (pv 1) (pa_cons (pe_bltn (v := .ty "tuple") (u := .type "tuple") (by rfl) T.m_tuple (by decide +kernel) rfl) pa_nil))) (fun _ => rfl))) (pw_or1 (pt_cmpR op_ne (pe_callB (lenQ K) (by rfl) T.m_len PySem.boot_len (pa_cons (pv 1) pa_nil)) (pe_callB (lenQ K) (by rfl) T.m_len PySem.boot_len (pa_cons (pe_ix (ixT K) (pv 0) pe_int (fun _ _ => rfl)) pa_nil)) (nomark _)))))
      (pss_one (ps_ret pe_bl))
      pss_nil)
      (pss_cons (ps_for PassesOwn.never rfl (RZ.pi_zipA (by rfl) T.m_zip (pa_cons (pv 1) (pa_cons (pe_ix (ixT K) (pv 0) pe_int (fun _ _ => rfl)) pa_nil))) (pg_tupQ (n := 2) K rfl (pgs_cons (pg_name (i := 2) sc_are_lines.nd rfl (Or.inl rfl)) (pgs_cons (pg_name (i := 3) sc_are_lines.nd rfl (Or.inl rfl)) pgs_nil)))
      (pss_one (ps_if (PW.pt (pw_or (pt_not (pt_val (pe_callB call_isi (by rfl) T.m_isinstance (by decide +kernel) (pa_cons (pv 2) (pa_cons (pe_bltn (v := .ty "int") (u := .type "int") (by rfl) T.m_int (by decide +kernel) rfl) pa_nil))) (fun _ => rfl))) (pw_or (pt_val (pe_callB call_isi (by rfl) T.m_isinstance (by decide +kernel) (pa_cons (pv 2) (pa_cons (pe_bltn (v := .ty "bool") (u := .type "bool") (by rfl) T.m_bool (by decide +kernel) rfl) pa_nil))) (fun _ => rfl)) (pw_or1 (pt_not (pt_chain op_le op_le pe_int (pv 2) (pe_ix (ixT K) (pv 3) pe_int (fun _ _ => rfl))))))))
      (pss_one (ps_ret pe_bl))
      pss_nil)))
      (pss_one (ps_ret pe_bl)))), ?_⟩
    refine ⟨_, rfl, _, _, _, _, _, rfl, .ty _, sqt_ty hx, kit_ty (r := true) (by decide +kernel), true, rfl, ?_⟩
    refine iteF ?_
    refine ⟨_, rfl, la, _, rfl, .inr hx, _, rfl, _, _, _, _, rfl, rfl, h1, rfl, se, _, rfl, .inr h2, rfl, _, rfl, iteNS (by rw [el]) ?_⟩
    refine ⟨_, rfl, _, rfl, _, _, _, _, rfl, rfl, h1, rfl, la, se, _, _, rfl, .inr ⟨hx, h2, RZ.for_zipT (K := K) (a := la) (b := se) el (fun i σ H' => Ex H H' ∧ ∃ v1 v2, σ = [some (.ref ha), some (.ref la), v1, v2]) ⟨Evl.Ex.refl H, none, none, rfl⟩ (fun i σ H' h => ⟨Evl.ex_t h.1 hx, Evl.ex_t h.1 h2⟩) ?_ ?_⟩⟩
    · rintro i a b t σ H' ha hb ⟨e, v1, v2, rfl⟩ ht
      obtain ⟨hi, rfl⟩ := row_v ha
      obtain rfl := rep_v hb
      have e2 := e.trans (Evl.Ex.new (o := .tup [.int (x.getD i 0), .ref sv]) ht)
      have hb := vl.2 _ (getD_mem hi)
      refine ⟨t, _, rfl, SqT.of upd_same, rfl, _, _, rfl, _, _, rfl, rfl, ?_⟩
      refine ⟨_, rfl, _, _, _, _, _, rfl, .ty _, .base (.int _), kit_ty (r := true) (by decide +kernel), true, rfl, ?_⟩
      refine iteF ?_
      refine ⟨_, rfl, _, _, _, _, _, rfl, .ty _, .base (.int _), kit_ty (r := false) (by decide +kernel), false, rfl, ?_⟩
      refine iteF ?_
      refine ⟨_, rfl, _, _, rfl, rfl, _, rfl, ?_⟩
      refine ite2 (fun _ => ?_) (fun c => absurd (decide_eq_true (by omega)) c)
      refine ⟨_, rfl, _, _, _, _, rfl, rfl, Evl.ex_t e2 h3, rfl, _, _, rfl, rfl, _, rfl, ?_⟩
      exact iteNS (by omega) ⟨e2, _, _, rfl⟩
    · rintro σ H' ⟨e, v1, v2, rfl⟩
      exact q H' e
def sp_is_stand (_ : Program) (_ : World) (K : PySem.W.Frag) : Sp := Pm 3 fun vs H Q => ∃ (hv rv sv : V) (hl : Hl) (x : List Nat), vs = [hv, rv, sv] ∧ HlOk hl ∧ HallAt K H hv hl ∧ RuleAt K H rv .least ∧ StandAt K H sv x ∧ Vl hl.n hl.r x ∧ ∀ H', Ex H H' → Q (.bl true) H'
/-! ### is_stand -/
abbrev N_sc_is_stand : List Str := ["hall", "rule", "thing"]
theorem sc_is_stand : FnScope N_sc_is_stand ["hall", "rule", "thing"] (defScope s_is_stand) := ⟨rfl, rfl, rfl, by decide +kernel, rfl, by decide +kernel, by decide +kernel⟩
theorem cl_is_stand {f : Addr} {fd : FuncData} (T : Tx K mg) (F : FnP K "is_stand" "is_stand" s_is_stand f fd) (m : mg "is_stand" = some (.ref f)) (C_are_lines : Clb P w K mg base "are_lines" 1 ["hall", "thing"] (sp_are_lines P w K)) (C_is_line : Clb P w K mg base "is_line" 2 ["hall", "thing"] (sp_is_line P w K)) :
    Clb P w K mg base "is_stand" 3 ["hall", "rule", "thing"] (sp_is_stand P w K) := by
    refine clb_of m F (F.bindsN fun _ _ _ _ _ _ us hl => match us, hl with | [_, _, _], _ => rfl) (F.ok sc_is_stand (fun _ _ _ _ h => by exact pm_len h) (fun cdv A outer s H vs Q E hr h => ?_))
    obtain ⟨_, hv, rv, sv, hl, x, rfl, ok, hH, ⟨ra, rfl, hR⟩, ⟨sa, la, rfl, hs, hx⟩, vl, q⟩ := h
    refine ⟨_, PSs.nox (pss_cons (ps_if (PW.pt (pw_or (pt_not (pt_val (pe_callB call_isi (by rfl) T.m_isinstance (by decide +kernel) (pa_cons (pv 2) (pa_cons (pe_bltn (v := .ty "tuple") (u := .type "tuple") (by rfl) T.m_tuple (by decide +kernel) rfl) pa_nil))) (fun _ => rfl))) (pw_or (pt_cmpR op_ne (pe_callB (lenQ K) (by rfl) T.m_len PySem.boot_len (pa_cons (pv 2) pa_nil)) pe_int (nomark _)) (pw_or (pt_not (pt_val (pe_c C_are_lines hr (by rfl) (pa_cons (pv 0) (pa_cons (pe_ix (ixT K) (pv 2) pe_int (fun _ _ => rfl)) pa_nil))) (fun _ => rfl))) (pw_or1 (pt_not (pt_val (pe_c C_is_line hr (by rfl) (pa_cons (pv 0) (pa_cons (pe_ix (ixT K) (pv 2) pe_int (fun _ _ => rfl)) pa_nil))) (fun _ => rfl))))))))
      (pss_one (ps_ret pe_bl))
      pss_nil)
      (pss_one (ps_ret (pe_or (pe_cmpR op_eq (pe_ix (ixT K) (pv 1) pe_int (fun _ _ => rfl)) pe_str (nomark _)) (pe_one (pe_cmpR op_eq (pe_ix (ixT K) (pv 2) pe_int (fun _ _ => rfl)) pe_int (nomark _))))))), ?_⟩
    refine ⟨_, rfl, _, _, _, _, _, rfl, .ty _, sqt_ty hs, kit_ty (r := true) (by decide +kernel), true, rfl, ?_⟩
    refine iteF ?_
    refine ⟨_, rfl, sa, _, rfl, .inr hs, rfl, _, rfl, iteNS rfl ?_⟩
    refine ⟨_, rfl, _, rfl, _, _, _, _, rfl, rfl, hs, rfl, rfl, _, _, hl, x, rfl, ok, hH, ⟨la, rfl, hx⟩, vl, fun H1 e1 => ⟨true, rfl, ?_⟩⟩
    refine iteF ?_
    refine ⟨_, rfl, _, rfl, _, _, _, _, rfl, rfl, Evl.ex_t e1 hs, rfl, rfl, _, hl, rfl, ok, hH.ex e1, true, rfl, ?_⟩
    refine iteF ?_
    refine ⟨_, rfl, _, _, _, _, rfl, rfl, Evl.ex_t e1 hR, rfl, rfl, _, rfl, ?_⟩
    rw [show decide (V.str "least" = V.str "turns") = false by decide +kernel]
    refine iteF ?_
    refine ⟨_, rfl, _, _, _, _, rfl, rfl, Evl.ex_t e1 hs, rfl, rfl, ?_⟩
    exact q H1 e1
def sp_shifts_of (_ : Program) (_ : World) (K : PySem.W.Frag) : Sp := Pm 2 fun vs H Q => ∃ (hv lv : V) (hl : Hl), vs = [hv, lv] ∧ HallAt K H hv hl ∧ ∀ a e H', Ex H H' → SqT K H' a [e, lv] → Q (.ref a) H'
/-! ### shifts_of -/
abbrev N_sc_shifts_of : List Str := ["hall", "lines", "shifts", "longest", "void"]
theorem sc_shifts_of : FnScope N_sc_shifts_of ["hall", "lines"] (defScope s_shifts_of) := ⟨rfl, rfl, rfl, by decide +kernel, rfl, by decide +kernel, by decide +kernel⟩
theorem cl_shifts_of {f : Addr} {fd : FuncData} (T : Tx K mg) (F : FnP K "shifts_of" "shifts_of" s_shifts_of f fd) (m : mg "shifts_of" = some (.ref f)) (C_lines_with : Clb P w K mg base "lines_with" 1 ["lines", "k", "many"] (sp_lines_with P w K)) :
    Clb P w K mg base "shifts_of" 2 ["hall", "lines"] (sp_shifts_of P w K) := by
    refine clb_of m F (F.bindsN fun _ _ _ _ _ _ us hl => match us, hl with | [_, _], _ => rfl) (F.ok sc_shifts_of (fun _ _ _ _ h => by exact pm_len h) (fun cdv A outer s H vs Q E hr h => ?_))
    obtain ⟨_, hv, lv, hl, rfl, ⟨ha, co, se, sv, sp, rfl, h1, h2, h3, h4⟩, q⟩ := h
    refine ⟨_, PSs.nox (pss_cons (ps_set (i := 2) sc_shifts_of.nd rfl (Or.inl rfl) (pe_lst pa_nil))
      (pss_cons (ps_while PassesOwn.never (PW.pt (pw_and (pt_val (pe_ix (ixT K) (pv 0) pe_int (fun _ _ => rfl)) (fun _ => rfl)) (pw_and (pt_cmpR op_eq (pe_callB (cr_minT rfl (hu_of hr)) (by rfl) T.m_min (by decide +kernel) (pa_cons (pv 1) pa_nil)) pe_int (nomark _)) (pw_and1 (pt_cmpR op_gt (pe_callB (cr_maxT rfl (hu_of hr)) (by rfl) T.m_max (by decide +kernel) (pa_cons (pv 1) pa_nil)) pe_int (nomark _))))))
      (pss_cons (ps_set (i := 3) sc_shifts_of.nd rfl (Or.inl rfl) (pe_bm PySem.F.plainAttrs_list PySem.F.slot_list_index PySem.F.type_list_index (mt_indexD (u65 hr)) (pv 1) (pa_cons (pe_callB (cr_maxT rfl (hu_of hr)) (by rfl) T.m_max (by decide +kernel) (pa_cons (pv 1) pa_nil)) pa_nil)))
      (pss_cons (ps_set (i := 4) sc_shifts_of.nd rfl (Or.inl rfl) (pe_bm PySem.F.plainAttrs_list PySem.F.slot_list_index PySem.F.type_list_index (mt_indexD (u65 hr)) (pv 1) (pa_cons pe_int pa_nil)))
      (pss_cons (ps_expr (pe_bm PySem.F.plainAttrs_list PySem.F.slot_list_append PySem.F.type_list_append mt_append (pv 2) (pa_cons (pe_tup (pa_cons (pv 3) (pa_cons (pv 4) pa_nil))) pa_nil)))
      (pss_one (ps_set (i := 1) sc_shifts_of.nd rfl (Or.inl rfl) (pe_c C_lines_with hr (by rfl) (pa_cons (pe_c C_lines_with hr (by rfl) (pa_cons (pv 1) (pa_cons (pv 3) (pa_cons (pe_un un_neg pe_int) pa_nil)))) (pa_cons (pv 4) (pa_cons pe_int pa_nil))))))))))
      (pss_one (ps_ret (pe_tup (pa_cons (pv 2) (pa_cons (pv 1) pa_nil))))))), ?_⟩
    refine ⟨Nat.zero_le _, fun p hp => ?_⟩
    have e1 := Evl.Ex.new (o := .lst []) hp
    refine ⟨fun m σ H' => H' = upd H p (.lst []) ∧ ∃ v1 v2, σ = [some (.ref ha), some lv, some (.ref p), v1, v2], ⟨0, rfl, _, _, rfl⟩, ?_⟩
    rintro m σ H' ⟨rfl, v1, v2, rfl⟩
    refine ⟨_, rfl, _, _, _, _, rfl, rfl, Evl.ex_t e1 h1, rfl, false, rfl, ?_⟩
    refine iteF ?_
    refine ⟨_, rfl, _, rfl, by show 2 ≤ sizeLine; decide, fun a ha' => ?_⟩
    exact q a (.ref p) _ (e1.trans (Evl.Ex.new ha')) (SqT.of upd_same)
def rwd : Rl → Str
  | .random => "random"
  | .two => "two"
  | .least => "least"
  | .quick => "quick"
  | .told _ => "told"
theorem RuleAt.word {H : Hp} {v : V} {R : Rl} (h : RuleAt K H v R) : ∃ a ws, v = .ref a ∧ SqT K H a (.str (rwd R) :: ws) := by
  cases R with
  | told ps =>
    obtain ⟨a, p, rfl, h1, _⟩ := h
    exact ⟨a, _, rfl, h1⟩
  | _ =>
    obtain ⟨a, rfl, h1⟩ := h
    exact ⟨a, _, rfl, h1⟩
theorem rwd_turns (R : Rl) : decide (V.str (rwd R) = V.str "turns") = false := by
  cases R with
  | told ps => show decide (V.str "told" = V.str "turns") = false; decide +kernel
  | random => show decide (V.str "random" = V.str "turns") = false; decide +kernel
  | two => show decide (V.str "two" = V.str "turns") = false; decide +kernel
  | least => show decide (V.str "least" = V.str "turns") = false; decide +kernel
  | quick => show decide (V.str "quick" = V.str "turns") = false; decide +kernel
/-- (lines, 0, word): the word is "away" where b -/
def AskAt (K : PySem.W.Frag) (H : Hp) (a : Addr) (y : List Nat) (b : Bool) : Prop := ∃ p wd, SqT K H a [.ref p, .int 0, .str wd] ∧ SqT K H p (rowV y) ∧ decide (V.str wd = V.str "away") = b
def sp_asked (_ : Program) (_ : World) (K : PySem.W.Frag) : Sp := Pm 4 fun vs H Q => ∃ (hv rv sv ov : V) (hl : Hl) (R : Rl) (x o : List Nat), vs = [hv, rv, sv, ov] ∧ HlOk hl ∧ HallAt K H hv hl ∧ RuleAt K H rv R ∧ StandAt K H sv x ∧ RowAt K H ov o ∧ RlOk hl.n hl.r R ∧ Vl hl.n hl.r x ∧ o ∈ ords hl.n hl.n ∧
  ∀ a H', Ex H H' → AskAt K H' a (comeAt hl.r x (sent hl.r R x o)).1 (comeAt hl.r x (sent hl.r R x o)).2 → Q (.ref a) H'
/-! ### asked -/
abbrev N_sc_asked : List Str := ["hall", "rule", "stand", "order", "lines", "turn", "line"]
theorem sc_asked : FnScope N_sc_asked ["hall", "rule", "stand", "order"] (defScope s_asked) := ⟨rfl, rfl, rfl, by decide +kernel, rfl, by decide +kernel, by decide +kernel⟩
theorem cl_asked {f : Addr} {fd : FuncData} (T : Tx K mg) (F : FnP K "asked" "asked" s_asked f fd) (m : mg "asked" = some (.ref f)) (C_lines_with : Clb P w K mg base "lines_with" 1 ["lines", "k", "many"] (sp_lines_with P w K)) (C_sent_to : Clb P w K mg base "sent_to" 5 ["hall", "rule", "stand", "order"] (sp_sent_to P w K)) :
    Clb P w K mg base "asked" 6 ["hall", "rule", "stand", "order"] (sp_asked P w K) := by
    refine clb_of m F (F.bindsN fun _ _ _ _ _ _ us hl => match us, hl with | [_, _, _, _], _ => rfl) (F.ok sc_asked (fun _ _ _ _ h => by exact pm_len h) (fun cdv A outer s H vs Q E hr h => ?_))
    obtain ⟨_, hv, rv, sv, ov, hl, R, x, o, rfl, ok, hH, hR, ⟨sa, la, rfl, hs, hx⟩, hO, rok, vl, hord, q⟩ := h
    obtain ⟨ra, ws, rfl, hw⟩ := hR.word
    have n0 := ok.n0
    have n4 := ok.n4
    have vlen := vl.1
    have sl := sent_lt n0 rok vl hord
    refine ⟨_, PSs.nox (pss_cons (ps_asg (pv 2) (pg_tup rfl (pgs_cons (pg_name (i := 4) sc_asked.nd rfl (Or.inl rfl)) (pgs_cons (pg_name (i := 5) sc_asked.nd rfl (Or.inl rfl)) pgs_nil))))
      (pss_cons (ps_set (i := 6) sc_asked.nd rfl (Or.inl rfl) (pe_c C_sent_to hr (by rfl) (pa_cons (pv 0) (pa_cons (pv 1) (pa_cons (pv 2) (pa_cons (pv 3) pa_nil))))))
      (pss_cons (ps_if (pt_cmpR op_eq (pe_ix (ixT K) (pv 1) pe_int (fun _ _ => rfl)) pe_str (nomark _)) pss_never pss_nil)
      (pss_cons (ps_if (pt_cmpR op_eq (pe_ix (ixT K) (pv 4) (pv 6) (fun _ _ => rfl)) (pe_ix (ixT K) (pe_ix (ixT K) (pe_ix (ixT K) (pv 0) pe_int (fun _ _ => rfl)) (pv 6) (fun _ _ => rfl)) pe_int (fun _ _ => rfl)) (nomark _))
        (pss_one (ps_ret (pe_tup (pa_cons (pv 4) (pa_cons (pv 5) (pa_cons (pe_globS (by rfl) T.g_AWAY) pa_nil))))))
        pss_nil)
      (pss_one (ps_ret (pe_tup (pa_cons (pe_c C_lines_with hr (by rfl) (pa_cons (pv 4) (pa_cons (pv 6) (pa_cons pe_int pa_nil)))) (pa_cons (pv 5) (pa_cons (pe_globS (by rfl) T.g_TAKEN) pa_nil)))))))))), ?_⟩
    refine ⟨_, rfl, sa, _, rfl, hs, rfl, _, _, rfl, _, _, rfl, rfl, ?_⟩
    refine ⟨_, rfl, _, rfl, _, rfl, _, rfl, rfl, _, _, _, _, hl, R, x, o, rfl, ok, hH, hR, ⟨sa, la, rfl, hs, hx⟩, hO, rok, vl, hord, fun H1 e1 => ?_⟩
    refine ⟨_, rfl, _, _, _, _, rfl, rfl, Evl.ex_t e1 hw, (show atI (V.str (rwd R) :: ws) 0 = some (.str (rwd R)) from at_of (j := 0) rfl rfl), rfl, _, rfl, ?_⟩
    rw [rwd_turns]
    refine iteF ?_
    obtain ⟨ha, co, se, sv, sp, rfl, h1, h2, h3, h4⟩ := hH
    generalize sent hl.r R x o = k at *
    refine ⟨_, rfl, _, rfl, _, _, _, _, rfl, rfl, Evl.ex_t e1 hx, row_at (by omega), _, rfl, _, _, _, _, rfl, rfl, Evl.ex_t e1 h1, rfl, _, rfl, _, _, _, _, rfl, rfl, Evl.ex_t e1 h2, rep_atz rfl sl, _, _, _, _, rfl, rfl, Evl.ex_t e1 h3, rfl, rfl, _, rfl, ite2 (fun c => ?_) (fun c => ?_)⟩
    · have hc : x.getD k 0 = hl.r := by have := of_decide_eq_true c; injection this with this; omega
      have ec : comeAt hl.r x k = (x, true) := if_pos hc
      rw [ec] at q
      refine ⟨_, rfl, _, rfl, by show 3 ≤ sizeLine; decide, fun a ha' => ?_⟩
      have e2 := e1.trans (Evl.Ex.new (o := .tup [.ref la, .int 0, .str "away"]) ha')
      exact q a _ e2 ⟨la, "away", SqT.of upd_same, Evl.ex_t e2 hx, decide_eq_true rfl⟩
    · have hc : ¬ x.getD k 0 = hl.r := fun z => c (decide_eq_true (by rw [z]))
      have ec : comeAt hl.r x k = (x.set k (x.getD k 0 + 1), false) := if_neg hc
      rw [ec] at q
      refine ⟨_, rfl, _, rfl, rfl, _, x, k, 1, x.getD k 0 + 1, rfl, ⟨la, rfl, Evl.ex_t e1 hx⟩, by omega, by omega, by omega, fun v H2 e2 hv => ?_⟩
      obtain ⟨p, rfl, hp⟩ := hv
      refine ⟨_, rfl, by show 3 ≤ sizeLine; decide, fun a ha' => ?_⟩
      have e3 := Evl.Ex.new (o := .tup [.ref p, .int 0, .str "taken"]) ha'
      exact q a _ ((e1.trans e2).trans e3) ⟨p, "taken", SqT.of upd_same, Evl.ex_t e3 hp, (show decide (V.str "taken" = V.str "away") = false by decide +kernel)⟩
end
end K58
set_option Elab.async false
set_option linter.all false
set_option maxRecDepth 100000
set_option maxHeartbeats 4000000
set_option autoImplicit false
namespace K58
open PySem PySem.Spec PyProof.Rows L2
open Evl (Ex)
section
variable {P : Program} {w : World} {K : PySem.W.Frag} {mg : Str → Option Value} {base : Heap}
def sp_changed (_ : Program) (_ : World) (K : PySem.W.Frag) : Sp := Pm 4 fun vs H Q => ∃ (hv rv sv mv : V) (hl : Hl) (R : Rl) (x : List Nat) (m : Mv), vs = [hv, rv, sv, mv] ∧ HlOk hl ∧ HallAt K H hv hl ∧ RuleAt K H rv R ∧ StandAt K H sv x ∧ MvAt K H mv m ∧ RlOk hl.n hl.r R ∧ Vl hl.n hl.r x ∧ m ∈ moves hl.n ∧
  ∀ a H', Ex H H' → AskAt K H' a (step hl.r R x m).1 (step hl.r R x m).2 → Q (.ref a) H'
/-! ### changed -/
abbrev N_sc_changed : List Str := ["hall", "rule", "stand", "move", "lines", "turn"]
theorem sc_changed : FnScope N_sc_changed ["hall", "rule", "stand", "move"] (defScope s_changed) := ⟨rfl, rfl, rfl, by decide +kernel, rfl, by decide +kernel, by decide +kernel⟩
theorem cl_changed {f : Addr} {fd : FuncData} (T : Tx K mg) (F : FnP K "changed" "changed" s_changed f fd) (m : mg "changed" = some (.ref f)) (C_asked : Clb P w K mg base "asked" 6 ["hall", "rule", "stand", "order"] (sp_asked P w K)) (C_lines_with : Clb P w K mg base "lines_with" 1 ["lines", "k", "many"] (sp_lines_with P w K)) :
    Clb P w K mg base "changed" 7 ["hall", "rule", "stand", "move"] (sp_changed P w K) := by
    refine clb_of m F (F.bindsN fun _ _ _ _ _ _ us hl => match us, hl with | [_, _, _, _], _ => rfl) (F.ok sc_changed (fun _ _ _ _ h => by exact pm_len h) (fun cdv A outer s H vs Q E hr h => ?_))
    obtain ⟨_, hv, rv, sv, mv, hl, R, x, m, rfl, ok, hH, hR, ⟨sa, la, rfl, hs, hx⟩, hM, rok, vl, hm, q⟩ := h
    have n0 := ok.n0
    have n4 := ok.n4
    have vlen := vl.1
    refine ⟨_, PSs.nox (pss_cons (ps_asg (pv 2) (pg_tupQ (n := 2) K rfl (pgs_cons (pg_name (i := 4) sc_changed.nd rfl (Or.inl rfl)) (pgs_cons (pg_name (i := 5) sc_changed.nd rfl (Or.inl rfl)) pgs_nil))))
      (pss_cons (ps_if (pt_cmpR op_eq (pe_ix (ixT K) (pv 3) pe_int (fun _ _ => rfl)) pe_str (nomark _))
      (pss_one (ps_ret (pe_c C_asked hr (by rfl) (pa_cons (pv 0) (pa_cons (pv 1) (pa_cons (pv 2) (pa_cons (pe_ix (ixT K) (pv 3) pe_int (fun _ _ => rfl)) pa_nil)))))))
      pss_nil)
      (pss_cons (ps_if (PW.pt (pw_and (pt_cmpR op_eq (pe_ix (ixT K) (pv 3) pe_int (fun _ _ => rfl)) pe_str (nomark _)) (pw_and1 (pt_cmpR op_gt (pe_ix (ixT K) (pv 4) (pe_ix (ixT K) (pv 3) pe_int (fun _ _ => rfl)) (fun _ _ => rfl)) pe_int (nomark _)))))
      (pss_one (ps_ret (pe_tup (pa_cons (pe_c C_lines_with hr (by rfl) (pa_cons (pv 4) (pa_cons (pe_ix (ixT K) (pv 3) pe_int (fun _ _ => rfl)) (pa_cons (pe_un un_neg pe_int) pa_nil)))) (pa_cons (pv 5) (pa_cons (pe_globS (by rfl) T.g_SERVED) pa_nil))))))
      pss_nil)
      (pss_one (ps_ret (pe_tup (pa_cons (pv 4) (pa_cons (pv 5) (pa_cons (pe_globS (by rfl) T.g_NONE) pa_nil))))))))), ?_⟩
    refine ⟨_, rfl, sa, _, rfl, hs, rfl, _, _, rfl, _, _, rfl, rfl, ?_⟩
    rcases mv_cases hm with ⟨o, rfl, ho⟩ | ⟨k, rfl, hk⟩ | rfl
    · obtain ⟨ma, oa, rfl, h1, h2⟩ := hM
      refine ⟨_, rfl, _, _, _, _, rfl, rfl, h1, rfl, rfl, _, rfl, ?_⟩
      rw [dT]
      refine iteT ?_
      exact ⟨_, rfl, _, rfl, _, rfl, _, rfl, _, _, _, _, rfl, rfl, h1, rfl, rfl, _, _, _, _, hl, R, x, o, rfl, ok, hH, hR, ⟨sa, la, rfl, hs, hx⟩, ⟨oa, rfl, h2⟩, rok, vl, ho, q⟩
    · obtain ⟨ma, rfl, h1⟩ := hM
      refine ⟨_, rfl, _, _, _, _, rfl, rfl, h1, rfl, rfl, _, rfl, ?_⟩
      rw [show decide (V.str "done" = V.str "come") = false by decide +kernel]
      refine iteF ?_
      refine ⟨_, rfl, _, _, _, _, rfl, rfl, h1, rfl, rfl, _, rfl, ?_⟩
      rw [dT]
      refine iteT ?_
      refine ⟨_, rfl, _, rfl, _, _, _, _, rfl, rfl, h1, rfl, _, _, _, _, rfl, rfl, hx, row_at (by omega), _, _, rfl, rfl, _, rfl, ite2 (fun c => ?_) (fun c => ?_)⟩
      · have hc : 0 < x.getD k 0 := by have := of_decide_eq_true c; omega
        have ec : step hl.r R x (.done k) = (x.set k (x.getD k 0 - 1), false) := by show (doneAt x k, false) = _; unfold doneAt; rw [if_pos hc]
        rw [ec] at q
        refine ⟨_, rfl, _, rfl, _, _, _, _, rfl, rfl, h1, rfl, _, rfl, rfl, _, x, k, -1, x.getD k 0 - 1, rfl, ⟨la, rfl, hx⟩, by omega, by omega, by omega, fun v H2 e2 hv => ?_⟩
        obtain ⟨p, rfl, hp⟩ := hv
        refine ⟨_, rfl, by show 3 ≤ sizeLine; decide, fun a ha' => ?_⟩
        have e3 := Evl.Ex.new (o := .tup [.ref p, .int 0, .str "served"]) ha'
        exact q a _ (e2.trans e3) ⟨p, "served", SqT.of upd_same, Evl.ex_t e3 hp, (show decide (V.str "served" = V.str "away") = false by decide +kernel)⟩
      · have hc : ¬ 0 < x.getD k 0 := fun z => c (decide_eq_true (by omega))
        have ec : step hl.r R x (.done k) = (x, false) := by show (doneAt x k, false) = _; unfold doneAt; rw [if_neg hc]
        rw [ec] at q
        refine ⟨_, rfl, _, rfl, by show 3 ≤ sizeLine; decide, fun a ha' => ?_⟩
        have e3 := Evl.Ex.new (o := .tup [.ref la, .int 0, .str "none"]) ha'
        exact q a _ e3 ⟨la, "none", SqT.of upd_same, Evl.ex_t e3 hx, (show decide (V.str "none" = V.str "away") = false by decide +kernel)⟩
    · obtain ⟨ma, rfl, h1⟩ := hM
      refine ⟨_, rfl, _, _, _, _, rfl, rfl, h1, rfl, rfl, _, rfl, ?_⟩
      rw [show decide (V.str "still" = V.str "come") = false by decide +kernel]
      refine iteF ?_
      refine ⟨_, rfl, _, _, _, _, rfl, rfl, h1, rfl, rfl, _, rfl, ?_⟩
      rw [show decide (V.str "still" = V.str "done") = false by decide +kernel]
      refine iteF ?_
      refine iteF ?_
      refine ⟨_, rfl, _, rfl, by show 3 ≤ sizeLine; decide, fun a ha' => ?_⟩
      have e3 := Evl.Ex.new (o := .tup [.ref la, .int 0, .str "none"]) ha'
      exact q a _ e3 ⟨la, "none", SqT.of upd_same, Evl.ex_t e3 hx, (show decide (V.str "none" = V.str "away") = false by decide +kernel)⟩
/-- ((lines, 0), word) -/
def WentAt (K : PySem.W.Frag) (H : Hp) (a : Addr) (y : List Nat) (b : Bool) : Prop := ∃ p wd, SqT K H a [.ref p, .str wd] ∧ StandAt K H (.ref p) y ∧ decide (V.str wd = V.str "away") = b
def sp_moved_on (_ : Program) (_ : World) (K : PySem.W.Frag) : Sp := Pm 4 fun vs H Q => ∃ (hv rv sv mv : V) (hl : Hl) (R : Rl) (x : List Nat) (m : Mv), vs = [hv, rv, sv, mv] ∧ HlOk hl ∧ HallAt K H hv hl ∧ RuleAt K H rv R ∧ StandAt K H sv x ∧ MvAt K H mv m ∧ RlOk hl.n hl.r R ∧ Vl hl.n hl.r x ∧ m ∈ moves hl.n ∧
  ∀ a H', Ex H H' → WentAt K H' a (step hl.r R x m).1 (step hl.r R x m).2 → Q (.ref a) H'
/-! ### moved_on -/
abbrev N_sc_moved_on : List Str := ["hall", "rule", "stand", "move", "lines", "turn", "word", "shifts"]
theorem sc_moved_on : FnScope N_sc_moved_on ["hall", "rule", "stand", "move"] (defScope s_moved_on) := ⟨rfl, rfl, rfl, by decide +kernel, rfl, by decide +kernel, by decide +kernel⟩
theorem cl_moved_on {f : Addr} {fd : FuncData} (T : Tx K mg) (F : FnP K "moved_on" "moved_on" s_moved_on f fd) (m : mg "moved_on" = some (.ref f)) (C_changed : Clb P w K mg base "changed" 7 ["hall", "rule", "stand", "move"] (sp_changed P w K)) (C_shifts_of : Clb P w K mg base "shifts_of" 2 ["hall", "lines"] (sp_shifts_of P w K)) :
    Clb P w K mg base "moved_on" 8 ["hall", "rule", "stand", "move"] (sp_moved_on P w K) := by
    refine clb_of m F (F.bindsN fun _ _ _ _ _ _ us hl => match us, hl with | [_, _, _, _], _ => rfl) (F.ok sc_moved_on (fun _ _ _ _ h => by exact pm_len h) (fun cdv A outer s H vs Q E hr h => ?_))
    obtain ⟨_, hv, rv, sv, mv, hl, R, x, m, rfl, ok, hH, hR, hS, hM, rok, vl, hm, q⟩ := h
    refine ⟨_, PSs.nox (pss_cons (ps_asg (pe_c C_changed hr (by rfl) (pa_cons (pv 0) (pa_cons (pv 1) (pa_cons (pv 2) (pa_cons (pv 3) pa_nil))))) (pg_tupQ (n := 3) K rfl (pgs_cons (pg_name (i := 4) sc_moved_on.nd rfl (Or.inl rfl)) (pgs_cons (pg_name (i := 5) sc_moved_on.nd rfl (Or.inl rfl)) (pgs_cons (pg_name (i := 6) sc_moved_on.nd rfl (Or.inl rfl)) pgs_nil)))))
      (pss_cons (ps_asg (pe_c C_shifts_of hr (by rfl) (pa_cons (pv 0) (pa_cons (pv 4) pa_nil))) (pg_tupQ (n := 2) K rfl (pgs_cons (pg_name (i := 7) sc_moved_on.nd rfl (Or.inl rfl)) (pgs_cons (pg_name (i := 4) sc_moved_on.nd rfl (Or.inl rfl)) pgs_nil))))
      (pss_one (ps_ret (pe_tup (pa_cons (pe_tup (pa_cons (pv 4) (pa_cons (pv 5) pa_nil))) (pa_cons (pv 6) pa_nil))))))), ?_⟩
    refine ⟨_, rfl, _, rfl, _, rfl, _, rfl, rfl, _, _, _, _, hl, R, x, m, rfl, ok, hH, hR, hS, hM, rok, vl, hm, fun a H1 e1 hA => ?_⟩
    obtain ⟨p, wd, h1, h2, h3⟩ := hA
    refine ⟨a, _, rfl, h1, rfl, _, _, rfl, _, _, rfl, _, _, rfl, rfl, ?_⟩
    refine ⟨_, rfl, _, rfl, rfl, _, _, hl, rfl, hH.ex e1, fun b e H2 e2 hb => ?_⟩
    refine ⟨b, _, rfl, hb, rfl, _, _, rfl, _, _, rfl, rfl, ?_⟩
    refine ⟨_, rfl, _, rfl, by show 2 ≤ sizeLine; decide, fun c hc => ?_⟩
    have e3 := Evl.Ex.new (o := .tup [.ref p, .int 0]) hc
    refine ⟨_, rfl, by show 2 ≤ sizeLine; decide, fun d hd => ?_⟩
    have e4 := Evl.Ex.new (o := .tup [.ref c, .str wd]) hd
    exact q d _ (((e1.trans e2).trans e3).trans e4) ⟨c, wd, SqT.of upd_same, ⟨c, p, rfl, Evl.ex_t e4 (SqT.of upd_same), Evl.ex_t ((e2.trans e3).trans e4) h2⟩, h3⟩
end
end K58
set_option Elab.async false
set_option linter.all false
set_option maxRecDepth 100000
set_option maxHeartbeats 4000000
set_option autoImplicit false
namespace K58
open PySem PySem.Spec PyProof.Rows L2
open Evl (Ex)
section
variable {P : Program} {w : World} {K : PySem.W.Frag} {mg : Str → Option Value} {base : Heap}
/-! lists of data -/
abbrev AllR {α : Type} (R : V → α → Prop) (vs : List V) (xs : List α) : Prop := Paired R vs xs
def LsAt {α : Type} (R : V → α → Prop) (H : Hp) (p : Addr) (xs : List α) : Prop := ∃ vs, H p = some (.lst vs) ∧ AllR R vs xs
theorem AllR.app {α : Type} {R : V → α → Prop} {vs us : List V} {xs ys : List α} (a : AllR R vs xs) (b : AllR R us ys) : AllR R (vs ++ us) (xs ++ ys) := by
  induction a with
  | nil => exact b
  | cons h t ih => exact .cons h ih
theorem AllR.mono {α : Type} {R S : V → α → Prop} {vs : List V} {xs : List α} (a : AllR R vs xs) (f : ∀ v x, R v x → S v x) : AllR S vs xs := Paired.mapP a f
theorem AllR.len {α : Type} {R : V → α → Prop} {vs : List V} {xs : List α} (a : AllR R vs xs) : vs.length = xs.length := Paired.length a
theorem AllR.get {α : Type} {R : V → α → Prop} {vs : List V} {xs : List α} (a : AllR R vs xs) : ∀ {i : Nat} {v : V}, vs[i]? = some v → ∃ x, xs[i]? = some x ∧ R v x := by
  induction a with
  | nil => intro i v h; simp at h
  | cons h t ih =>
    intro i v hv
    cases i with
    | zero => simp at hv; subst hv; exact ⟨_, rfl, h⟩
    | succ i => exact ih (by simpa using hv)
theorem AllR.get2 {α : Type} {R : V → α → Prop} {vs : List V} {xs : List α} (a : AllR R vs xs) : ∀ {i : Nat} {x : α}, xs[i]? = some x → ∃ v, vs[i]? = some v ∧ R v x := by
  induction a with
  | nil => intro i v h; simp at h
  | cons h t ih =>
    intro i v hv
    cases i with
    | zero => simp at hv; subst hv; exact ⟨_, rfl, h⟩
    | succ i => exact ih (by simpa using hv)
theorem AllR.row {H H' : Hp} {vs : List V} {xs : List (List Nat)} (e : Ex H H') (a : AllR (RowAt K H) vs xs) : AllR (RowAt K H') vs xs := a.mono fun _ _ h => h.ex e
theorem AllR.mv {H H' : Hp} {vs : List V} {xs : List Mv} (e : Ex H H') (a : AllR (MvAt K H) vs xs) : AllR (MvAt K H') vs xs := a.mono fun _ _ h => h.ex e
theorem take_snoc {α : Type} {l : List α} {i : Nat} {x : α} (h : l[i]? = some x) : l.take (i + 1) = l.take i ++ [x] := by rw [List.take_succ, h]; rfl
/-! all orders -/
def nexts (n : Nat) (o : List Nat) : List (List Nat) := ((List.range n).filter fun k => decide (k ∉ o)).map fun k => o ++ [k]
theorem ords_succ (n i : Nat) : ords n (i + 1) = (ords n i).flatMap (nexts n) := rfl
theorem nexts_len (n : Nat) (o : List Nat) : (nexts n o).length ≤ n := by
  unfold nexts
  rw [List.length_map]
  have := List.length_filter_le (fun k => decide (k ∉ o)) (List.range n)
  rw [List.length_range] at this
  exact this
theorem flat_len {α : Type} (g : α → List (List Nat)) (n : Nat) (h : ∀ a, (g a).length ≤ n) : ∀ l : List α, (l.flatMap g).length ≤ l.length * n
  | [] => by simp
  | a :: l => by
    rw [List.flatMap_cons, List.length_append, List.length_cons, Nat.add_mul]
    have := flat_len g n h l
    have := h a
    omega
theorem ords_len {n : Nat} (hn : n ≤ 4) : ∀ i, i ≤ 4 → (ords n i).length ≤ 4 ^ i
  | 0, _ => by simp [ords]
  | i + 1, hi => by
    rw [ords_succ, Nat.pow_succ]
    refine Nat.le_trans (flat_len _ n (nexts_len n) _) ?_
    exact Nat.mul_le_mul (ords_len hn i (by omega)) hn
theorem inV_row (o : List Nat) (k : Nat) : inV (.int (k : Int)) (rowV o) = decide (k ∈ o) := by
  unfold inV rowV
  rw [List.any_map]
  induction o with
  | nil => rfl
  | cons a o ih =>
    rw [List.any_cons, ih]
    have e : ((fun y => eqV y (V.int (k : Int))) ∘ fun n : Nat => V.int (n : Int)) a = decide (a = k) := by
      show eqV (.int (a : Int)) (.int (k : Int)) = _
      simp only [eqV]
      by_cases c : a = k
      · subst c; simp
      · rw [decide_eq_false c]; simp; omega
    rw [e]
    by_cases c : a = k
    · subst c; simp
    · have : ¬ k = a := fun z => c z.symm
      simp [c, this]
theorem rowV_flat (o : List Nat) : (rowV o).all flatV = true := by
  unfold rowV
  rw [List.all_map, List.all_eq_true]
  intro a _
  rfl
def nx (o : List Nat) (k : Nat) : List (List Nat) := ((List.range k).filter fun k => decide (k ∉ o)).map fun k => o ++ [k]
theorem nx_yes {o : List Nat} {k : Nat} (h : k ∉ o) : nx o (k + 1) = nx o k ++ [o ++ [k]] := by
  unfold nx
  rw [List.range_succ, List.filter_append, List.map_append, List.filter_cons, if_pos (decide_eq_true h)]
  rfl
theorem nx_no {o : List Nat} {k : Nat} (h : k ∈ o) : nx o (k + 1) = nx o k := by
  unfold nx
  rw [List.range_succ, List.filter_append, List.map_append, List.filter_cons, if_neg (by simpa using h)]
  simp
theorem nx_len (o : List Nat) (k : Nat) : (nx o k).length ≤ k := nexts_len k o
def sp_all_orders (_ : Program) (_ : World) (K : PySem.W.Frag) : Sp := Pm 1 fun vs H Q => ∃ (hv : V) (hl : Hl), vs = [hv] ∧ HlOk hl ∧ HallAt K H hv hl ∧ ∀ p H', H p = none → Ex H H' → LsAt (RowAt K H') H' p (ords hl.n hl.n) → Q (.ref p) H'
/-! ### all_orders -/
abbrev N_sc_all_orders : List Str := ["hall", "found", "turn", "longer", "order", "k"]
theorem sc_all_orders : FnScope N_sc_all_orders ["hall"] (defScope s_all_orders) := ⟨rfl, rfl, rfl, by decide +kernel, rfl, by decide +kernel, by decide +kernel⟩
theorem cl_all_orders {f : Addr} {fd : FuncData} (T : Tx K mg) (F : FnP K "all_orders" "all_orders" s_all_orders f fd) (m : mg "all_orders" = some (.ref f))  :
    Clb P w K mg base "all_orders" 1 ["hall"] (sp_all_orders P w K) := by
    refine clb_of m F (F.bindsN fun _ _ _ _ _ _ us hl => match us, hl with | [_], _ => rfl) (F.ok sc_all_orders (fun _ _ _ _ h => by exact pm_len h) (fun cdv A outer s H vs Q E hr h => ?_))
    obtain ⟨_, hv, hl, rfl, ok, ⟨ha, co, se, sv, sp, rfl, h1, h2, h3, h4⟩, q⟩ := h
    have n0 := ok.n0
    have n4 := ok.n4
    refine ⟨_, PSs.nox (pss_cons (ps_set (i := 1) sc_all_orders.nd rfl (Or.inl rfl) (pe_lst (pa_cons (pe_tup pa_nil) pa_nil)))
      (pss_cons (ps_for PassesOwn.never rfl (pi_tup (pe_ix (ixT K) (pv 0) pe_int (fun _ _ => rfl))) (pg_name (i := 2) sc_all_orders.nd rfl (Or.inl rfl))
      (pss_cons (ps_set (i := 3) sc_all_orders.nd rfl (Or.inl rfl) (pe_lst pa_nil))
      (pss_cons (ps_for PassesOwn.never rfl (pi_list (pv 1)) (pg_name (i := 4) sc_all_orders.nd rfl (Or.inr rfl))
      (pss_one (ps_expr (pe_bm PySem.F.plainAttrs_list PySem.F.slot_list_extend PySem.F.type_list_extend mt_extend (pv 3) (pa_cons (pe_lc (own := [("k", 5)]) rfl sc_all_orders.nd (pi_range1 (by rfl) T.m_range (pa_cons (pe_callB (lenQ K) (by rfl) T.m_len PySem.boot_len (pa_cons (pe_ix (ixT K) (pv 0) pe_int (fun _ _ => rfl)) pa_nil)) pa_nil)) (blkOk_by (own := [("k", 5)]) (N := N_sc_all_orders) (sc := defScope s_all_orders) (by decide +kernel)) (fun _ _ _ _ _ => pg_name (i := 5) sc_all_orders.nd rfl (Or.inl rfl)) (fun _ _ _ _ _ => pts_one (pt_cmpR (niS K) (pv 5) (pv 4) rfl)) (fun _ _ _ _ _ => (pe_op (catT K) (pv 4) (pe_tup (pa_cons (pv 5) pa_nil))))) pa_nil)))))
      (pss_one (ps_set (i := 1) sc_all_orders.nd rfl (Or.inl rfl) (pv 3))))))
      (pss_one (ps_ret (pv 1))))), ?_⟩
    refine ⟨Nat.zero_le _, fun p0 hp0 => ⟨by show 1 ≤ sizeLine; decide, fun p1 hp1 => ?_⟩⟩
    have e0 := Evl.Ex.new (o := .tup []) hp0
    have e1 := Evl.Ex.new (o := .lst [.ref p0]) hp1
    have f1 := Evl.fresh_back e0 hp1
    refine ⟨_, rfl, _, _, _, _, rfl, rfl, Evl.ex_t (e0.trans e1) h1, rfl, se, rfl, ⟨_, Evl.ex_t (e0.trans e1) h2⟩, for_tup (K := K) (a := se) (xs := List.replicate hl.n (.ref sv))
      (fun i σ H' => Ex H H' ∧ ∃ fp v2 v3 v4 v5, σ = [some (.ref ha), some (.ref fp), v2, v3, v4, v5] ∧ H fp = none ∧ LsAt (RowAt K H') H' fp (ords hl.n i)) ⟨e0.trans e1, p1, none, none, none, none, rfl, f1, _, upd_same, .cons ⟨p0, rfl, Evl.ex_t e1 (SqT.of upd_same)⟩ .nil⟩ (fun i σ H' _ h => Evl.ex_t h.1 h2) ?_ ?_⟩
    · rintro i v σ H' hi ⟨e, fp, v2, v3, v4, v5, rfl, hfp, vs, hvs, hall⟩
      have hi4 : i < hl.n := by have := (List.getElem?_eq_some_iff.mp hi).1; rw [List.length_replicate] at this; exact this
      have hlen := ords_len n4 i (by omega)
      have h256 : (ords hl.n i).length ≤ 256 := Nat.le_trans hlen (Nat.le_trans (Nat.pow_le_pow_right (by decide) (show i ≤ 4 by omega)) (by decide))
      refine ⟨Nat.zero_le _, fun lp hlp => ?_⟩
      have e2 := Evl.Ex.new (o := .lst []) hlp
      have hne : fp ≠ lp := ne_of_none hvs hlp
      refine ⟨_, rfl, fp, rfl, ⟨vs, SqL.of (e2 _ _ hvs)⟩, for_list (K := K) (a := fp) (xs := vs)
        (fun j σ H2 => Ex H' H2 ∧ ∃ w2 w4 w5, σ = [some (.ref ha), some (.ref fp), w2, some (.ref lp), w4, w5] ∧ LsAt (RowAt K H2) H2 lp (((ords hl.n i).take j).flatMap (nexts hl.n))) ⟨e2, _, v4, v5, rfl, [], upd_same, .nil⟩ (fun j σ H2 _ h => SqL.of (h.1 _ _ hvs)) ?_ ?_⟩
      · rintro j ov σ H2 hj ⟨e3, w2, w4, w5, rfl, us, hus, hal⟩
        obtain ⟨o, ho, ⟨oa, rfl, hoa⟩⟩ := hall.get hj
        have hjl : j < (ords hl.n i).length := (List.getElem?_eq_some_iff.mp ho).1
        have e03 := e.trans e3
        have hoa3 := Evl.ex_t e3 hoa
        have hon := (ords_mem _ _ _ (List.mem_of_getElem? ho)).1
        refine ⟨_, rfl, .inl ⟨rfl, _, SqL.of hus⟩, _, rfl, _, _, _, _, rfl, rfl, Evl.ex_t e03 h1, rfl, se, _, rfl, .inr (Evl.ex_t e03 h2), _, rfl, by omega, by rw [List.length_replicate]; omega, fun D hD => lc_range (lo := 0) (n := (List.replicate hl.n (V.ref sv)).length)
          (fun k H3 => Ex H2 H3 ∧ ∃ ws, H3 D = some (.lst ws) ∧ AllR (RowAt K H3) ws (nx o k)) ⟨Evl.Ex.new hD, [], upd_same, .nil⟩ ?_ ?_⟩
        · rintro k H3 hk ⟨e4, ws, hws, hwr⟩
          rw [List.length_replicate] at hk
          refine ⟨rfl, _, rfl, _, rfl, oa, rowV o, rfl, .inr (Evl.ex_t e4 hoa3), rfl, rowV_flat o, _, rfl, ?_⟩
          rw [if_pos rfl, show (0 : Int) + (k : Int) = (k : Int) by omega, inV_row]
          by_cases c : k ∈ o
          · rw [decide_eq_true c]
            refine iteF ⟨e4, ws, hws, ?_⟩
            rw [nx_no c]
            exact hwr
          · rw [decide_eq_false c]
            refine iteT ⟨_, rfl, _, rfl, by show 1 ≤ sizeLine; decide, fun q1 hq1 => ?_⟩
            have e5 := Evl.Ex.new (o := .tup [.int (k : Int)]) hq1
            have hDq : D ≠ q1 := ne_of_none hws hq1
            refine catA (x := o) (y := [k]) (Evl.ex_t (e4.trans e5) hoa3) (SqT.of (by rw [upd_same]; rfl)) (by rw [hon]; simp; omega) fun q2 H4 e6 hq2 => ?_
            have e56 := e5.trans e6
            refine ⟨ws, e56 _ _ hws, ?_, Evl.Ex.mut (e4.trans e56) hD, ws ++ [.ref q2], upd_same, ?_⟩
            · rw [hwr.len, sizeLine_eq]
              have := nx_len o k
              omega
            · rw [nx_yes c]
              have hkeep : ∀ b xs, SqT K H4 b xs → SqT K (upd H4 D (.lst (ws ++ [.ref q2]))) b xs := fun b xs z => by
                rcases z with (z | ⟨oo, z⟩) | z
                · exact .inl (.inl (by rw [upd_ne (ne_of z (e56 _ _ hws) (fun y => nomatch y))]; exact z))
                · exact .inl (.inr ⟨oo, by rw [upd_ne (ne_of z (e56 _ _ hws) (fun y => nomatch y))]; exact z⟩)
                · exact .inr z
              refine AllR.app ((hwr.row e56).mono fun v x hr => ?_) (.cons ⟨q2, rfl, hkeep _ _ hq2⟩ .nil)
              obtain ⟨b, rfl, hb⟩ := hr
              exact ⟨b, rfl, hkeep _ _ hb⟩
        · rintro H3 ⟨e4, ws, hws, hwr⟩
          rw [List.length_replicate] at hwr
          have hDl : lp ≠ D := ne_of_none hus hD
          refine ⟨lp, D, us, ws, rfl, rfl, e4 _ _ hus, hws, ?_, ?_⟩
          · rw [hal.len, hwr.len, sizeLine_eq]
            have a := flat_len (nexts hl.n) hl.n (nexts_len hl.n) ((ords hl.n i).take j)
            have b := nx_len o hl.n
            have c : ((ords hl.n i).take j).length ≤ 256 := by rw [List.length_take]; omega
            have d : ((ords hl.n i).take j).length * hl.n ≤ 256 * 4 := Nat.mul_le_mul c n4
            omega
          · have hkeep : ∀ b xs, SqT K H3 b xs → SqT K (upd H3 lp (.lst (us ++ ws))) b xs := fun b xs z => by
              rcases z with (z | ⟨oo, z⟩) | z
              · exact .inl (.inl (by rw [upd_ne (ne_of z (e4 _ _ hus) (fun y => nomatch y))]; exact z))
              · exact .inl (.inr ⟨oo, by rw [upd_ne (ne_of z (e4 _ _ hus) (fun y => nomatch y))]; exact z⟩)
              · exact .inr z
            refine ⟨Evl.Ex.mut (e3.trans e4) hlp, _, _, _, rfl, us ++ ws, upd_same, ?_⟩
            rw [take_snoc ho, List.flatMap_append]
            refine AllR.app ((hal.row e4).mono fun v x hr => ?_) ?_
            · obtain ⟨b, rfl, hb⟩ := hr
              exact ⟨b, rfl, hkeep _ _ hb⟩
            · rw [List.flatMap_cons, List.flatMap_nil, List.append_nil]
              refine hwr.mono fun v x hr => ?_
              obtain ⟨b, rfl, hb⟩ := hr
              exact ⟨b, rfl, hkeep _ _ hb⟩
      · rintro σ H2 ⟨e3, w2, w4, w5, rfl, us, hus, hal⟩
        rw [hall.len, List.take_of_length_le (Nat.le_refl _), ← ords_succ] at hal
        exact ⟨_, rfl, e.trans e3, lp, _, _, _, _, rfl, Evl.fresh_back e hlp, us, hus, hal⟩
    · rintro σ H' ⟨e, fp, v2, v3, v4, v5, rfl, hfp, hls⟩
      rw [List.length_replicate] at hls
      exact ⟨_, rfl, q fp H' hfp e hls⟩
end
end K58
set_option Elab.async false
set_option linter.all false
set_option maxRecDepth 100000
set_option maxHeartbeats 4000000
set_option autoImplicit false
namespace K58
open PySem PySem.Spec PyProof.Rows L2
open Evl (Ex)
section
variable {P : Program} {w : World} {K : PySem.W.Frag} {mg : Str → Option Value} {base : Heap}
theorem sqt_upd {H : Hp} {D b : Addr} {us vs xs : List V} (h : H D = some (.lst us)) (z : SqT K H b xs) : SqT K (upd H D (.lst vs)) b xs := by
  rcases z with (z | ⟨oo, z⟩) | z
  · exact .inl (.inl (by rw [upd_ne (ne_of z h (fun y => nomatch y))]; exact z))
  · exact .inl (.inr ⟨oo, by rw [upd_ne (ne_of z h (fun y => nomatch y))]; exact z⟩)
  · exact .inr z
theorem RowAt.upd {H : Hp} {D : Addr} {us vs : List V} {v : V} {x : List Nat} (h : H D = some (.lst us)) (z : RowAt K H v x) : RowAt K (upd H D (.lst vs)) v x := by
  obtain ⟨a, rfl, z⟩ := z
  exact ⟨a, rfl, sqt_upd h z⟩
theorem MvAt.upd {H : Hp} {D : Addr} {us vs : List V} {v : V} {m : Mv} (h : H D = some (.lst us)) (z : MvAt K H v m) : MvAt K (upd H D (.lst vs)) v m := by
  cases m with
  | come o =>
    obtain ⟨a, p, rfl, h1, h2⟩ := z
    exact ⟨a, p, rfl, sqt_upd h h1, sqt_upd h h2⟩
  | _ =>
    obtain ⟨a, rfl, h1⟩ := z
    exact ⟨a, rfl, sqt_upd h h1⟩
def sp_all_moves (_ : Program) (_ : World) (K : PySem.W.Frag) : Sp := Pm 1 fun vs H Q => ∃ (hv : V) (hl : Hl), vs = [hv] ∧ HlOk hl ∧ HallAt K H hv hl ∧ ∀ p H', H p = none → Ex H H' → LsAt (MvAt K H') H' p (moves hl.n) → Q (.ref p) H'
/-! ### all_moves -/
abbrev N_sc_all_moves : List Str := ["hall", "found", "order", "k"]
theorem sc_all_moves : FnScope N_sc_all_moves ["hall"] (defScope s_all_moves) := ⟨rfl, rfl, rfl, by decide +kernel, rfl, by decide +kernel, by decide +kernel⟩
theorem cl_all_moves {f : Addr} {fd : FuncData} (T : Tx K mg) (F : FnP K "all_moves" "all_moves" s_all_moves f fd) (m : mg "all_moves" = some (.ref f)) (C_all_orders : Clb P w K mg base "all_orders" 1 ["hall"] (sp_all_orders P w K)) :
    Clb P w K mg base "all_moves" 2 ["hall"] (sp_all_moves P w K) := by
    refine clb_of m F (F.bindsN fun _ _ _ _ _ _ us hl => match us, hl with | [_], _ => rfl) (F.ok sc_all_moves (fun _ _ _ _ h => by exact pm_len h) (fun cdv A outer s H vs Q E hr h => ?_))
    obtain ⟨_, hv, hl, rfl, ok, hH, q⟩ := h
    obtain ⟨ha, co, se, sv, sp, rfl, h1, h2, h3, h4⟩ := id hH
    have n0 := ok.n0
    have n4 := ok.n4
    refine ⟨_, PSs.nox (pss_cons (ps_setLc (i := 1) (own := [("order", 2)]) rfl sc_all_moves.nd rfl rfl (sw_true rfl rfl rfl (by decide +kernel)) (pi_list (pe_c C_all_orders hr (by rfl) (pa_cons (pv 0) pa_nil))) (blkOk_by (own := [("order", 2)]) (N := N_sc_all_moves) (sc := defScope s_all_moves) (by decide +kernel)) (fun _ _ _ _ _ => pg_name (i := 2) sc_all_moves.nd rfl (Or.inl rfl)) (fun _ _ _ _ _ => pts_nil) (fun _ _ _ _ _ => (pe_tup (pa_cons pe_str (pa_cons (pv 2) pa_nil)))))
      (pss_one (ps_ret (pe_op op_cat (pe_op op_cat (pv 1) (pe_lc (own := [("k", 3)]) rfl sc_all_moves.nd (pi_range1 (by rfl) T.m_range (pa_cons (pe_callB (lenQ K) (by rfl) T.m_len PySem.boot_len (pa_cons (pe_ix (ixT K) (pv 0) pe_int (fun _ _ => rfl)) pa_nil)) pa_nil)) (blkOk_by (own := [("k", 3)]) (N := N_sc_all_moves) (sc := defScope s_all_moves) (by decide +kernel)) (fun _ _ _ _ _ => pg_name (i := 3) sc_all_moves.nd rfl (Or.inl rfl)) (fun _ _ _ _ _ => pts_nil) (fun _ _ _ _ _ => (pe_tup (pa_cons pe_str (pa_cons (pv 3) pa_nil)))))) (pe_lst (pa_cons (pe_tup (pa_cons pe_str pa_nil)) pa_nil)))))), ?_⟩
    refine ⟨_, rfl, rfl, _, hl, rfl, ok, hH, fun p H1 hp e1 hls => ?_⟩
    obtain ⟨vs, hvs, hall⟩ := hls
    have hol := ords_len n4 hl.n n4
    have h256 : (ords hl.n hl.n).length ≤ 256 := Nat.le_trans hol (Nat.le_trans (Nat.pow_le_pow_right (by decide) n4) (by decide))
    refine ⟨p, rfl, ⟨vs, SqL.of hvs⟩, fun D hD => lc_list (K := K) (a := p) (xs := vs) (fun i H' => Ex H1 H' ∧ ∃ us, H' D = some (.lst us) ∧ AllR (MvAt K H') us (((ords hl.n hl.n).take i).map Mv.come)) ⟨Evl.Ex.new hD, [], upd_same, .nil⟩ (fun i H' _ h => SqL.of (h.1 _ _ hvs)) ?_ ?_⟩
    · rintro i v H' hi ⟨e2, us, hus, hal⟩
      obtain ⟨o, ho, ⟨oa, rfl, hoa⟩⟩ := hall.get hi
      refine ⟨rfl, ?_⟩
      dsimp only [tYes]
      refine iteT ⟨_, rfl, by show 2 ≤ sizeLine; decide, fun q1 hq1 => ?_⟩
      have e3 := Evl.Ex.new (o := .tup [.str "come", .ref oa]) hq1
      have hD3 := e3 _ _ hus
      refine ⟨us, hD3, ?_, Evl.Ex.mut (e2.trans e3) hD, us ++ [.ref q1], upd_same, ?_⟩
      · rw [hal.len, List.length_map, List.length_take, sizeLine_eq]; omega
      · rw [take_snoc ho, List.map_append]
        exact AllR.app ((hal.mv e3).mono fun _ _ h => h.upd hD3) (.cons ⟨q1, oa, rfl, sqt_upd hD3 (SqT.of upd_same), sqt_upd hD3 (Evl.ex_t (e2.trans e3) hoa)⟩ .nil)
    · rintro H2 ⟨e2, us, hus, hal⟩
      rw [hall.len, List.take_of_length_le (Nat.le_refl _)] at hal
      have hD0 := Evl.fresh_back e1 hD
      have e12 := e1.trans e2
      refine ⟨_, rfl, _, rfl, _, _, _, _, rfl, rfl, Evl.ex_t e12 h1, rfl, se, _, rfl, .inr (Evl.ex_t e12 h2), _, rfl, by omega, by rw [List.length_replicate]; omega, fun D2 hD2 => lc_range (lo := 0) (n := (List.replicate hl.n (V.ref sv)).length)
        (fun k H' => Ex H2 H' ∧ ∃ us, H' D2 = some (.lst us) ∧ AllR (MvAt K H') us ((List.range k).map Mv.done)) ⟨Evl.Ex.new hD2, [], upd_same, .nil⟩ ?_ ?_⟩
      · rintro k H' hk ⟨e3, ws, hws, hal2⟩
        rw [List.length_replicate] at hk
        refine ⟨rfl, ?_⟩
        dsimp only [tYes]
        rw [show (0 : Int) + (k : Int) = (k : Int) by omega]
        refine iteT ⟨_, rfl, by show 2 ≤ sizeLine; decide, fun q1 hq1 => ?_⟩
        have e4 := Evl.Ex.new (o := .tup [.str "done", .int (k : Int)]) hq1
        have hD4 := e4 _ _ hws
        refine ⟨ws, hD4, ?_, Evl.Ex.mut (e3.trans e4) hD2, ws ++ [.ref q1], upd_same, ?_⟩
        · rw [hal2.len, List.length_map, List.length_range, sizeLine_eq]; omega
        · rw [List.range_succ, List.map_append]
          exact AllR.app ((hal2.mv e4).mono fun _ _ h => h.upd hD4) (.cons ⟨q1, rfl, sqt_upd hD4 (SqT.of upd_same)⟩ .nil)
      · rintro H3 ⟨e3, ws, hws, hal2⟩
        rw [List.length_replicate] at hal2
        refine ⟨D, D2, us, ws, rfl, rfl, e3 _ _ hus, hws, ?_, fun p3 hp3 => ?_⟩
        · rw [hal.len, hal2.len, List.length_map, List.length_map, List.length_range, sizeLine_eq]; omega
        have e4 := Evl.Ex.new (o := .lst (us ++ ws)) hp3
        refine ⟨by show 1 ≤ sizeLine; decide, fun p4 hp4 => ⟨by show 1 ≤ sizeLine; decide, fun p5 hp5 => ?_⟩⟩
        have e5 := Evl.Ex.new (o := .tup [.str "still"]) hp4
        have e6 := Evl.Ex.new (o := .lst [.ref p4]) hp5
        have e56 := e5.trans e6
        refine ⟨p3, p5, us ++ ws, [.ref p4], rfl, rfl, e56 _ _ upd_same, upd_same, ?_, fun p6 hp6 => ?_⟩
        · rw [List.length_append, hal.len, hal2.len, List.length_map, List.length_map, List.length_range, sizeLine_eq]; simp; omega
        have e7 := Evl.Ex.new (o := .lst (us ++ ws ++ [.ref p4])) hp6
        have e47 := (e4.trans e56).trans e7
        have e37 := e3.trans e47
        refine q p6 _ (Evl.fresh_back (e12.trans (e3.trans (e4.trans e56))) hp6) (e12.trans e37) ⟨_, upd_same, ?_⟩
        exact AllR.app (AllR.app (hal.mv e37) (hal2.mv e47)) (.cons ⟨p4, rfl, Evl.ex_t (e6.trans e7) (SqT.of upd_same)⟩ .nil)
def sp_kept_lines (_ : Program) (_ : World) (K : PySem.W.Frag) : Sp := Pm 2 fun vs H Q => ∃ (hv lv : V) (hl : Hl) (x : List Nat), vs = [hv, lv] ∧ HlOk hl ∧ HallAt K H hv hl ∧ RowAt K H lv x ∧ x.length ≤ 1000 ∧ ∀ v H', Ex H H' → RowAt K H' v (srt x) → Q v H'
theorem srt_ints (x : List Nat) : ((x.map fun n : Nat => (n : Int)).mergeSort fun a b => decide (b ≤ a)).map V.int = rowV (srt x) := by
  have e := List.map_mergeSort (f := fun n : Nat => (n : Int)) (r := fun a b : Nat => decide (b ≤ a)) (s := fun a b : Int => decide (b ≤ a)) (l := x) (fun a _ b _ => decide_eq_decide.mpr (by omega))
  rw [← e, rowV_ints]
  rfl
/-! ### kept_lines -/
abbrev N_sc_kept_lines : List Str := ["hall", "lines"]
theorem sc_kept_lines : FnScope N_sc_kept_lines ["hall", "lines"] (defScope s_kept_lines) := ⟨rfl, rfl, rfl, by decide +kernel, rfl, by decide +kernel, by decide +kernel⟩
theorem cl_kept_lines {f : Addr} {fd : FuncData} (T : Tx K mg) (F : FnP K "kept_lines" "kept_lines" s_kept_lines f fd) (m : mg "kept_lines" = some (.ref f)) (C_is_alike : Clb P w K mg base "is_alike" 1 ["hall"] (sp_is_alike P w K)) :
    Clb P w K mg base "kept_lines" 2 ["hall", "lines"] (sp_kept_lines P w K) := by
    refine clb_of m F (F.bindsN fun _ _ _ _ _ _ us hl => match us, hl with | [_, _], _ => rfl) (F.ok sc_kept_lines (fun _ _ _ _ h => by exact pm_len h) (fun cdv A outer s H vs Q E hr h => ?_))
    obtain ⟨_, hv, lv, hl, x, rfl, ok, hH, ⟨la, rfl, hx⟩, hlen, q⟩ := h
    refine ⟨_, PSs.nox (pss_one (ps_ret (pe_ifExp (pt_val (pe_c C_is_alike hr (by rfl) (pa_cons (pv 0) pa_nil)) (fun _ => rfl)) (pe_callTy call_tuple_of (by rfl) T.m_tuple (by decide +kernel) (pa_cons (pe_callBK (cr_sortTR (u4 hr)) (by rfl) T.m_sorted (by decide +kernel) (pa_cons (pv 1) pa_nil) (pk_cons pe_bl pk_nil)) pa_nil)) (pe_callTy call_tuple_of (by rfl) T.m_tuple (by decide +kernel) (pa_cons (pv 1) pa_nil))))), ?_⟩
    refine ⟨_, rfl, rfl, _, hl, rfl, ok, hH, fun H1 e1 => ⟨true, rfl, ?_⟩⟩
    refine iteT ?_
    refine ⟨_, rfl, la, x.map (fun n : Nat => (n : Int)), rfl, rfl, by rw [← rowV_ints]; exact Evl.ex_t e1 hx, fun p hp => ?_⟩
    rw [srt_ints]
    have e2 := Evl.Ex.new (o := .lst (rowV (srt x))) hp
    refine ⟨p, _, rfl, .inl ⟨SqL.of upd_same, fun l hl => ?_⟩⟩
    exact q _ _ ((e1.trans e2).trans (Evl.Ex.new hl)) ⟨l, rfl, SqT.of upd_same⟩
def sp_is_worse (_ : Program) (_ : World) (K : PySem.W.Frag) : Sp := Pm 1 fun vs H Q => ∃ (tv : V) (t : Tr), vs = [tv] ∧ TrAt K H tv t ∧ Q (.bl (decide (Worse t))) H
theorem sum_ints (x : List Nat) : (x.map fun n : Nat => (n : Int)).sum = (x.sum : Nat) := by
  induction x with
  | nil => rfl
  | cons a x ih => rw [List.map_cons, List.sum_cons, List.sum_cons, ih]; simp
/-! ### is_worse -/
abbrev N_sc_is_worse : List Str := ["triple", "x", "y", "more"]
theorem sc_is_worse : FnScope N_sc_is_worse ["triple"] (defScope s_is_worse) := ⟨rfl, rfl, rfl, by decide +kernel, rfl, by decide +kernel, by decide +kernel⟩
theorem cl_is_worse {f : Addr} {fd : FuncData} (T : Tx K mg) (F : FnP K "is_worse" "is_worse" s_is_worse f fd) (m : mg "is_worse" = some (.ref f))  :
    Clb P w K mg base "is_worse" 1 ["triple"] (sp_is_worse P w K) := by
    refine clb_of m F (F.bindsN fun _ _ _ _ _ _ us hl => match us, hl with | [_], _ => rfl) (F.ok sc_is_worse (fun _ _ _ _ h => by exact pm_len h) (fun cdv A outer s H vs Q E hr h => ?_))
    obtain ⟨_, tv, t, rfl, ⟨a, p, r, rfl, h1, h2, h3⟩, q⟩ := h
    refine ⟨_, PSs.nox (pss_cons (ps_asg (pv 0) (pg_tupQ (n := 3) K rfl (pgs_cons (pg_name (i := 1) sc_is_worse.nd rfl (Or.inl rfl)) (pgs_cons (pg_name (i := 2) sc_is_worse.nd rfl (Or.inl rfl)) (pgs_cons (pg_name (i := 3) sc_is_worse.nd rfl (Or.inl rfl)) pgs_nil)))))
      (pss_one (ps_ret (pe_or (pe_cmpR op_lt (pv 3) pe_int (nomark _)) (pe_one (pe_cmpR op_gt (pe_callB (cr_sumT rfl) (by rfl) T.m_sum (by decide +kernel) (pa_cons (pv 1) pa_nil)) (pe_op op_add (pe_callB (cr_sumT rfl) (by rfl) T.m_sum (by decide +kernel) (pa_cons (pv 2) pa_nil)) (pv 3)) (nomark _))))))), ?_⟩
    refine ⟨_, rfl, a, _, rfl, h1, rfl, _, _, rfl, _, _, rfl, _, _, rfl, rfl, ?_⟩
    refine ⟨_, rfl, _, _, rfl, rfl, _, rfl, ite2 (fun c => ?_) (fun c => ?_)⟩
    · have hw : Worse t := .inl (of_decide_eq_true c)
      rw [decide_eq_true hw] at q
      exact q
    · have hc : ¬ t.2.2 < 0 := fun z => c (decide_eq_true z)
      refine ⟨_, rfl, p, t.1.map (fun n : Nat => (n : Int)), rfl, by rw [← rowV_ints]; exact h2, _, rfl, r, t.2.1.map (fun n : Nat => (n : Int)), rfl, by rw [← rowV_ints]; exact h3, _, rfl, _, _, rfl, rfl, _, _, rfl, rfl, ?_⟩
      have e : decide ((t.2.1.map fun n : Nat => (n : Int)).sum + t.2.2 < (t.1.map fun n : Nat => (n : Int)).sum) = decide (Worse t) := by
        rw [sum_ints, sum_ints]
        refine decide_eq_decide.mpr ⟨fun z => .inr z, fun z => ?_⟩
        rcases z with z | z
        · exact absurd z hc
        · exact z
      show Q (.bl (decide ((t.2.1.map fun n : Nat => (n : Int)).sum + t.2.2 < (t.1.map fun n : Nat => (n : Int)).sum))) H
      rw [e]
      exact q
def sp_ask_rules (_ : Program) (_ : World) (K : PySem.W.Frag) : Sp := Pm 2 fun vs H Q => ∃ (ov qv : V) (R S : Rl), vs = [ov, qv] ∧ RuleAt K H ov R ∧ RuleAt K H qv S ∧ Q .non H
/-! ### ask_rules -/
abbrev N_sc_ask_rules : List Str := ["one", "other"]
theorem sc_ask_rules : FnScope N_sc_ask_rules ["one", "other"] (defScope s_ask_rules) := ⟨rfl, rfl, rfl, by decide +kernel, rfl, by decide +kernel, by decide +kernel⟩
theorem cl_ask_rules {f : Addr} {fd : FuncData} (T : Tx K mg) (F : FnP K "ask_rules" "ask_rules" s_ask_rules f fd) (m : mg "ask_rules" = some (.ref f))  :
    Clb P w K mg base "ask_rules" 1 ["one", "other"] (sp_ask_rules P w K) := by
    refine clb_of m F (F.bindsN fun _ _ _ _ _ _ us hl => match us, hl with | [_, _], _ => rfl) (F.ok sc_ask_rules (fun _ _ _ _ h => by exact pm_len h) (fun cdv A outer s H vs Q E hr h => ?_))
    obtain ⟨_, ov, qv, R, S, rfl, hR, hS, q⟩ := h
    obtain ⟨a, ws, rfl, h1⟩ := hR.word
    obtain ⟨b, us, rfl, h2⟩ := hS.word
    refine ⟨_, PSs.nox (pss_one (ps_if (PW.pt (pw_or (pt_cmpR op_eq (pe_ix (ixT K) (pv 0) pe_int (fun _ _ => rfl)) (pe_globS (by rfl) T.g_TURNS) (nomark _)) (pw_or1 (pt_cmpR op_eq (pe_ix (ixT K) (pv 1) pe_int (fun _ _ => rfl)) (pe_globS (by rfl) T.g_TURNS) (nomark _)))))
      pss_never
      pss_nil)), ?_⟩
    refine ⟨_, rfl, _, _, _, _, rfl, rfl, h1, (show atI (V.str (rwd R) :: ws) 0 = some (.str (rwd R)) from at_of (j := 0) rfl rfl), rfl, _, rfl, ?_⟩
    rw [rwd_turns]
    refine iteF ?_
    refine ⟨_, rfl, _, _, _, _, rfl, rfl, h2, (show atI (V.str (rwd S) :: us) 0 = some (.str (rwd S)) from at_of (j := 0) rfl rfl), rfl, _, rfl, ?_⟩
    rw [rwd_turns]
    refine iteF ?_
    exact q
def sp_both_moved (_ : Program) (_ : World) (K : PySem.W.Frag) : Sp := Pm 5 fun vs H Q => ∃ (hv ov qv tv mv : V) (hl : Hl) (R S : Rl) (t : Tr) (m : Mv), vs = [hv, ov, qv, tv, mv] ∧ HlOk hl ∧ HallAt K H hv hl ∧ RuleAt K H ov R ∧ RuleAt K H qv S ∧ TrAt K H tv t ∧ MvAt K H mv m ∧
  RlOk hl.n hl.r R ∧ RlOk hl.n hl.r S ∧ Vl hl.n hl.r t.1 ∧ Vl hl.n hl.r t.2.1 ∧ m ∈ moves hl.n ∧ ∀ v H', Ex H H' → TrAt K H' v (both hl.r R S t m) → Q v H'
theorem b2n_if (b : Bool) : (if b = true then (1 : Int) else 0) = (b2n b : Nat) := by cases b <;> rfl
/-! ### both_moved -/
abbrev N_sc_both_moved : List Str := ["hall", "one", "other", "triple", "move", "x", "y", "more", "here", "first", "there", "second"]
theorem sc_both_moved : FnScope N_sc_both_moved ["hall", "one", "other", "triple", "move"] (defScope s_both_moved) := ⟨rfl, rfl, rfl, by decide +kernel, rfl, by decide +kernel, by decide +kernel⟩
theorem cl_both_moved {f : Addr} {fd : FuncData} (T : Tx K mg) (F : FnP K "both_moved" "both_moved" s_both_moved f fd) (m : mg "both_moved" = some (.ref f)) (C_kept_lines : Clb P w K mg base "kept_lines" 2 ["hall", "lines"] (sp_kept_lines P w K)) (C_moved_on : Clb P w K mg base "moved_on" 8 ["hall", "rule", "stand", "move"] (sp_moved_on P w K)) :
    Clb P w K mg base "both_moved" 9 ["hall", "one", "other", "triple", "move"] (sp_both_moved P w K) := by
    refine clb_of m F (F.bindsN fun _ _ _ _ _ _ us hl => match us, hl with | [_, _, _, _, _], _ => rfl) (F.ok sc_both_moved (fun _ _ _ _ h => by exact pm_len h) (fun cdv A outer s H vs Q E hr h => ?_))
    obtain ⟨_, hv, ov, qv, tv, mv, hl, R, S, t, m, rfl, ok, hH, hR, hS, ⟨a, p, r, rfl, h1, h2, h3⟩, hM, rok, sok, vx, vy, hm, q⟩ := h
    have n0 := ok.n0
    have n4 := ok.n4
    refine ⟨_, PSs.nox (pss_cons (ps_asg (pv 3) (pg_tupQ (n := 3) K rfl (pgs_cons (pg_name (i := 5) sc_both_moved.nd rfl (Or.inl rfl)) (pgs_cons (pg_name (i := 6) sc_both_moved.nd rfl (Or.inl rfl)) (pgs_cons (pg_name (i := 7) sc_both_moved.nd rfl (Or.inl rfl)) pgs_nil)))))
      (pss_cons (ps_asg (pe_c C_moved_on hr (by rfl) (pa_cons (pv 0) (pa_cons (pv 1) (pa_cons (pe_tup (pa_cons (pv 5) (pa_cons pe_int pa_nil))) (pa_cons (pv 4) pa_nil))))) (pg_tupQ (n := 2) K rfl (pgs_cons (pg_name (i := 8) sc_both_moved.nd rfl (Or.inl rfl)) (pgs_cons (pg_name (i := 9) sc_both_moved.nd rfl (Or.inl rfl)) pgs_nil))))
      (pss_cons (ps_asg (pe_c C_moved_on hr (by rfl) (pa_cons (pv 0) (pa_cons (pv 2) (pa_cons (pe_tup (pa_cons (pv 6) (pa_cons pe_int pa_nil))) (pa_cons (pv 4) pa_nil))))) (pg_tupQ (n := 2) K rfl (pgs_cons (pg_name (i := 10) sc_both_moved.nd rfl (Or.inl rfl)) (pgs_cons (pg_name (i := 11) sc_both_moved.nd rfl (Or.inl rfl)) pgs_nil))))
      (pss_one (ps_ret (pe_tup (pa_cons (pe_c C_kept_lines hr (by rfl) (pa_cons (pv 0) (pa_cons (pe_ix (ixT K) (pv 8) pe_int (fun _ _ => rfl)) pa_nil))) (pa_cons (pe_c C_kept_lines hr (by rfl) (pa_cons (pv 0) (pa_cons (pe_ix (ixT K) (pv 10) pe_int (fun _ _ => rfl)) pa_nil))) (pa_cons (pe_op op_sub (pe_op op_add (pv 7) (pe_callTy call_int1 (by rfl) T.m_int (by decide +kernel) (pa_cons (pe_cmpR op_eq (pv 11) (pe_globS (by rfl) T.g_AWAY) (nomark _)) pa_nil))) (pe_callTy call_int1 (by rfl) T.m_int (by decide +kernel) (pa_cons (pe_cmpR op_eq (pv 9) (pe_globS (by rfl) T.g_AWAY) (nomark _)) pa_nil))) pa_nil))))))))), ?_⟩
    refine ⟨_, rfl, a, _, rfl, h1, rfl, _, _, rfl, _, _, rfl, _, _, rfl, rfl, ?_⟩
    refine ⟨_, rfl, _, rfl, _, rfl, by show 2 ≤ sizeLine; decide, fun q1 hq1 => ?_⟩
    have e1 := Evl.Ex.new (o := .tup [.ref p, .int 0]) hq1
    refine ⟨_, rfl, rfl, _, _, _, _, hl, R, t.1, m, rfl, ok, hH.ex e1, hR.ex e1, ⟨q1, p, rfl, SqT.of upd_same, Evl.ex_t e1 h2⟩, hM.ex e1, rok, vx, hm, fun b H2 e2 hb => ?_⟩
    obtain ⟨b1, w1, hb1, hb2, hb3⟩ := hb
    have e12 := e1.trans e2
    refine ⟨b, _, rfl, hb1, rfl, _, _, rfl, _, _, rfl, rfl, ?_⟩
    refine ⟨_, rfl, _, rfl, _, rfl, by show 2 ≤ sizeLine; decide, fun q2 hq2 => ?_⟩
    have e3 := Evl.Ex.new (o := .tup [.ref r, .int 0]) hq2
    have e13 := e12.trans e3
    refine ⟨_, rfl, rfl, _, _, _, _, hl, S, t.2.1, m, rfl, ok, hH.ex e13, hS.ex e13, ⟨q2, r, rfl, SqT.of upd_same, Evl.ex_t e13 h3⟩, hM.ex e13, sok, vy, hm, fun c H4 e4 hc => ?_⟩
    obtain ⟨c1, w2, hc1, hc2, hc3⟩ := hc
    have e14 := e13.trans e4
    refine ⟨c, _, rfl, hc1, rfl, _, _, rfl, _, _, rfl, rfl, ?_⟩
    obtain ⟨x1, x2, ex, hx1, hx2⟩ := hb2.ex (e3.trans e4)
    cases ex
    obtain ⟨y1, y2, ey, hy1, hy2⟩ := hc2
    cases ey
    refine ⟨_, rfl, _, rfl, _, _, _, _, rfl, rfl, hx1, rfl, rfl, _, _, hl, _, rfl, ok, hH.ex e14, ⟨x2, rfl, hx2⟩, by rw [(step_vl n0 rok vx hm).1]; omega, fun u H5 e5 hu => ?_⟩
    refine ⟨_, rfl, _, rfl, _, _, _, _, rfl, rfl, Evl.ex_t e5 hy1, rfl, rfl, _, _, hl, _, rfl, ok, hH.ex (e14.trans e5), ⟨y2, rfl, Evl.ex_t e5 hy2⟩, by rw [(step_vl n0 sok vy hm).1]; omega, fun v H6 e6 hv => ?_⟩
    obtain ⟨u1, rfl, hu1⟩ := hu
    obtain ⟨v1, rfl, hv1⟩ := hv
    refine ⟨_, rfl, _, rfl, rfl, .inr ⟨_, rfl, _, _, rfl, rfl, _, rfl, rfl, .inr ⟨_, rfl, _, _, rfl, rfl, by show 3 ≤ sizeLine; decide, fun d hd => ?_⟩⟩⟩
    have e7 := Evl.Ex.new (o := .tup [.ref u1, .ref v1, .int (both hl.r R S t m).2.2]) hd
    have ez : t.2.2 + (if decide (V.str w2 = V.str "away") = true then (1 : Int) else 0) - (if decide (V.str w1 = V.str "away") = true then (1 : Int) else 0) = (both hl.r R S t m).2.2 := by
      rw [hc3, hb3, b2n_if, b2n_if]
      rfl
    have key : ∀ z : Int, z = (both hl.r R S t m).2.2 → Q (.ref d) (upd H6 d (.tup [.ref u1, .ref v1, .int z])) := fun z hz => by
      subst hz
      exact q _ _ (((e14.trans e5).trans e6).trans e7) ⟨d, u1, v1, rfl, SqT.of upd_same, Evl.ex_t (e6.trans e7) hu1, Evl.ex_t e7 hv1⟩
    exact key _ ez
end
end K58
set_option Elab.async false
set_option linter.all false
set_option maxRecDepth 100000
set_option maxHeartbeats 4000000
set_option autoImplicit false
namespace K58
open PySem PySem.Spec PyProof.Rows L2
open Evl (Ex)
section
variable {P : Program} {w : World} {K : PySem.W.Frag} {mg : Str → Option Value} {base : Heap}
theorem dp_nums {H : Hp} : ∀ x : List Nat, DpAll K H (rowV x) (x.map fun n : Nat => PyData.int (n : Int))
  | [] => .nil
  | a :: x => .cons (.int _) (dp_nums x)
theorem RowAt.dp {H : Hp} {v : V} {x : List Nat} (h : RowAt K H v x) : Dp K H v (dRow x) := by
  obtain ⟨a, rfl, h⟩ := h
  exact .tup h (dp_nums x)
theorem lay_nums : ∀ x : List Nat, PyData.canLayAll0 (x.map fun n : Nat => PyData.int (n : Int)) = true
  | [] => by simp [PyData.canLayAll0]
  | a :: x => by
    rw [List.map_cons, PyData.canLayAll0, lay_nums x]
    simp [PyData.canLay0]
theorem lay_row (x : List Nat) : (dRow x).canLay0 = true := by
  unfold dRow
  rw [PyData.canLay0]
  exact lay_nums x
theorem shaped_row (x : List Nat) : SeqAt.shaped (dRow x) = true := by
  unfold SeqAt.shaped
  rw [lay_row]
  unfold dRow
  simp [PyData.depth, depth_nums_d]
def sp_are_kept (_ : Program) (_ : World) (K : PySem.W.Frag) : Sp := Pm 2 fun vs H Q => ∃ (hv lv : V) (hl : Hl) (x : List Nat), vs = [hv, lv] ∧ HlOk hl ∧ HallAt K H hv hl ∧ RowAt K H lv x ∧ Ks hl.n hl.r x ∧ ∀ H', Ex H H' → Q (.bl true) H'
/-! ### are_kept -/
abbrev N_sc_are_kept : List Str := ["hall", "thing"]
theorem sc_are_kept : FnScope N_sc_are_kept ["hall", "thing"] (defScope s_are_kept) := ⟨rfl, rfl, rfl, by decide +kernel, rfl, by decide +kernel, by decide +kernel⟩
theorem cl_are_kept {f : Addr} {fd : FuncData} (T : Tx K mg) (F : FnP K "are_kept" "are_kept" s_are_kept f fd) (m : mg "are_kept" = some (.ref f)) (C_is_stand : Clb P w K mg base "is_stand" 3 ["hall", "rule", "thing"] (sp_is_stand P w K)) (C_kept_lines : Clb P w K mg base "kept_lines" 2 ["hall", "lines"] (sp_kept_lines P w K)) :
    Clb P w K mg base "are_kept" 4 ["hall", "thing"] (sp_are_kept P w K) := by
    refine clb_of m F (F.bindsN fun _ _ _ _ _ _ us hl => match us, hl with | [_, _], _ => rfl) (F.ok sc_are_kept (fun _ _ _ _ h => by exact pm_len h) (fun cdv A outer s H vs Q E hr h => ?_))
    obtain ⟨_, hv, lv, hl, x, rfl, ok, hH, hR, ks, q⟩ := h
    obtain ⟨la, rfl, hx⟩ := id hR
    obtain ⟨aPL, mPL, hPL⟩ := T.g_PLACES
    have n4 := ok.n4
    have xl := ks.1.1
    refine ⟨_, PSs.nox (pss_one (ps_ret (pe_and (pe_c C_is_stand hr (by rfl) (pa_cons (pv 0) (pa_cons (pe_glob (v := .ref aPL) (by rfl) mPL rfl) (pa_cons (pe_tup (pa_cons (pv 1) (pa_cons pe_int pa_nil))) pa_nil)))) (pe_one (pe_cmpR (eqD K hr.units) (pe_c C_kept_lines hr (by rfl) (pa_cons (pv 0) (pa_cons (pv 1) pa_nil))) (pv 1) (nomark _)))))), ?_⟩
    refine ⟨_, rfl, _, rfl, by show 2 ≤ sizeLine; decide, fun p hp => ?_⟩
    have e1 := Evl.Ex.new (o := .tup [.ref la, .int 0]) hp
    refine ⟨rfl, _, _, _, hl, x, rfl, ok, hH.ex e1, ⟨aPL, rfl, hPL _⟩, ⟨p, la, rfl, SqT.of upd_same, Evl.ex_t e1 hx⟩, ks.1, fun H2 e2 => ⟨true, rfl, ?_⟩⟩
    refine iteT ?_
    have e12 := e1.trans e2
    refine ⟨_, rfl, _, rfl, rfl, _, _, hl, x, rfl, ok, hH.ex e12, hR.ex e12, by omega, fun v H3 e3 hv => ?_⟩
    rw [srt_of ks.2] at hv
    refine ⟨_, rfl, dRow x, dRow x, hv.dp, (hR.ex (e12.trans e3)).dp, shaped_row x, shaped_row x, ?_⟩
    rw [SeqAt.eqv_refl _ (lay_row x)]
    exact q _ (e12.trans e3)
def sp_is_triple (_ : Program) (_ : World) (K : PySem.W.Frag) : Sp := Pm 2 fun vs H Q => ∃ (hv tv : V) (hl : Hl) (t : Tr), vs = [hv, tv] ∧ HlOk hl ∧ HallAt K H hv hl ∧ TrAt K H tv t ∧ Ks hl.n hl.r t.1 ∧ Ks hl.n hl.r t.2.1 ∧ 0 ≤ t.2.2 ∧ ∀ H', Ex H H' → Q (.bl true) H'
/-! ### is_triple -/
abbrev N_sc_is_triple : List Str := ["hall", "thing", "x", "y", "more"]
theorem sc_is_triple : FnScope N_sc_is_triple ["hall", "thing"] (defScope s_is_triple) := ⟨rfl, rfl, rfl, by decide +kernel, rfl, by decide +kernel, by decide +kernel⟩
theorem cl_is_triple {f : Addr} {fd : FuncData} (T : Tx K mg) (F : FnP K "is_triple" "is_triple" s_is_triple f fd) (m : mg "is_triple" = some (.ref f)) (C_are_kept : Clb P w K mg base "are_kept" 4 ["hall", "thing"] (sp_are_kept P w K)) :
    Clb P w K mg base "is_triple" 5 ["hall", "thing"] (sp_is_triple P w K) := by
    refine clb_of m F (F.bindsN fun _ _ _ _ _ _ us hl => match us, hl with | [_, _], _ => rfl) (F.ok sc_is_triple (fun _ _ _ _ h => by exact pm_len h) (fun cdv A outer s H vs Q E hr h => ?_))
    obtain ⟨_, hv, tv, hl, t, rfl, ok, hH, ⟨a, p, r, rfl, h1, h2, h3⟩, k1, k2, h0, q⟩ := h
    refine ⟨_, PSs.nox (pss_cons (ps_if (PW.pt (pw_or (pt_not (pt_val (pe_callB call_isi (by rfl) T.m_isinstance (by decide +kernel) (pa_cons (pv 1) (pa_cons (pe_bltn (v := .ty "tuple") (u := .type "tuple") (by rfl) T.m_tuple (by decide +kernel) rfl) pa_nil))) (fun _ => rfl))) (pw_or1 (pt_cmpR op_ne (pe_callB (lenQ K) (by rfl) T.m_len PySem.boot_len (pa_cons (pv 1) pa_nil)) pe_int (nomark _)))))
      (pss_one (ps_ret pe_bl))
      pss_nil)
      (pss_cons (ps_asg (pv 1) (pg_tupQ (n := 3) K rfl (pgs_cons (pg_name (i := 2) sc_is_triple.nd rfl (Or.inl rfl)) (pgs_cons (pg_name (i := 3) sc_is_triple.nd rfl (Or.inl rfl)) (pgs_cons (pg_name (i := 4) sc_is_triple.nd rfl (Or.inl rfl)) pgs_nil)))))
      (pss_cons (ps_if (PW.pt (pw_or (pt_not (pt_val (pe_callB call_isi (by rfl) T.m_isinstance (by decide +kernel) (pa_cons (pv 4) (pa_cons (pe_bltn (v := .ty "int") (u := .type "int") (by rfl) T.m_int (by decide +kernel) rfl) pa_nil))) (fun _ => rfl))) (pw_or (pt_val (pe_callB call_isi (by rfl) T.m_isinstance (by decide +kernel) (pa_cons (pv 4) (pa_cons (pe_bltn (v := .ty "bool") (u := .type "bool") (by rfl) T.m_bool (by decide +kernel) rfl) pa_nil))) (fun _ => rfl)) (pw_or1 (pt_cmpR op_lt (pv 4) pe_int (nomark _))))))
      (pss_one (ps_ret pe_bl))
      pss_nil)
      (pss_one (ps_ret (pe_and (pe_c C_are_kept hr (by rfl) (pa_cons (pv 0) (pa_cons (pv 2) pa_nil))) (pe_one (pe_c C_are_kept hr (by rfl) (pa_cons (pv 0) (pa_cons (pv 3) pa_nil)))))))))), ?_⟩
    refine ⟨_, rfl, _, _, _, _, _, rfl, .ty _, sqt_ty h1, kit_ty (r := true) (by decide +kernel), true, rfl, ?_⟩
    refine iteF ?_
    refine ⟨_, rfl, a, _, rfl, .inr h1, rfl, _, rfl, iteNS rfl ?_⟩
    refine ⟨_, rfl, a, _, rfl, h1, rfl, _, _, rfl, _, _, rfl, _, _, rfl, rfl, ?_⟩
    refine ⟨_, rfl, _, _, _, _, _, rfl, .ty _, .base (.int _), kit_ty (r := true) (by decide +kernel), true, rfl, ?_⟩
    refine iteF ?_
    refine ⟨_, rfl, _, _, _, _, _, rfl, .ty _, .base (.int _), kit_ty (r := false) (by decide +kernel), false, rfl, ?_⟩
    refine iteF ?_
    refine ⟨_, rfl, _, _, rfl, rfl, _, rfl, ite2 (fun c => absurd (of_decide_eq_true c) (by omega)) (fun _ => ?_)⟩
    refine ⟨_, rfl, _, rfl, rfl, _, _, hl, t.1, rfl, ok, hH, ⟨p, rfl, h2⟩, k1, fun H1 e1 => ⟨true, rfl, ?_⟩⟩
    refine iteT ?_
    exact ⟨_, rfl, _, rfl, rfl, _, _, hl, t.2.1, rfl, ok, hH.ex e1, ⟨r, rfl, Evl.ex_t e1 h3⟩, k2, fun H2 e2 => q H2 (e1.trans e2)⟩
/-- a paper -/
def PapAt (K : PySem.W.Frag) (H : Hp) (v : V) (ps : List Tr) : Prop := ∃ a vs, v = .ref a ∧ SqT K H a vs ∧ AllR (TrAt K H) vs ps
theorem AllR.tr {H H' : Hp} {vs : List V} {xs : List Tr} (e : Ex H H') (a : AllR (TrAt K H) vs xs) : AllR (TrAt K H') vs xs := a.mono fun _ _ h => h.ex e
theorem PapAt.ex {H H' : Hp} {v : V} {ps : List Tr} (e : Ex H H') (h : PapAt K H v ps) : PapAt K H' v ps := by
  obtain ⟨a, vs, rfl, h1, h2⟩ := h
  exact ⟨a, vs, rfl, Evl.ex_t e h1, h2.tr e⟩
theorem NdAt.ex {H H' : Hp} {D : Addr} {es : En} (e : Ex H H') (h : NdAt P w K H D es) : NdAt P w K H' D es := ⟨e _ _ h.1, fun x hx => (h.2 x hx).ex e⟩
theorem look_same (M : Kn) (k : Ky) (v : Int) : look (putM M k v) k = some v := by
  cases h : look M k with
  | none =>
    rw [putM_new v h]
    unfold look at h ⊢
    rw [List.find?_append]
    rw [Option.map_eq_none_iff] at h
    rw [h]
    simp
  | some u =>
    rw [putM_old v h]
    have hm := look_some h
    clear h
    induction M with
    | nil => cases hm
    | cons e M ih =>
      rw [List.map_cons, look_cons]
      by_cases c : e.1 = k
      · rw [if_pos c, if_pos c]
      · rw [if_neg c, if_neg c]
        exact ih (by rcases List.mem_cons.mp hm with z | z; exact absurd (by rw [← z]) c; exact z)
theorem look_other (M : Kn) {k j : Ky} (v : Int) (hj : j ≠ k) : look (putM M k v) j = look M j := by
  cases h : look M k with
  | none =>
    rw [putM_new v h]
    unfold look
    rw [List.find?_append]
    cases hq : M.find? fun e => decide (e.1 = j) with
    | none => simp [hj.symm]
    | some z => rfl
  | some u =>
    rw [putM_old v h]
    clear h
    induction M with
    | nil => rfl
    | cons e M ih =>
      rw [List.map_cons, look_cons, look_cons]
      by_cases c : e.1 = k
      · rw [if_pos c]
        have : ¬ e.1 = j := fun z => hj (z.symm.trans c)
        rw [if_neg this, if_neg this]
        exact ih
      · rw [if_neg c]
        by_cases d : e.1 = j
        · rw [if_pos d, if_pos d]
        · rw [if_neg d, if_neg d]; exact ih
def LowIn (M : Kn) (ps : List Tr) : Prop := ∀ t ∈ ps, ∃ v, look M (t.1, t.2.1) = some v ∧ v ≤ t.2.2
theorem LowIn.put {M : Kn} {ps : List Tr} {t : Tr} {z : Int} (h : LowIn M ps) (h1 : z ≤ t.2.2) (h2 : ∀ v, look M (t.1, t.2.1) = some v → z ≤ v) : LowIn (putM M (t.1, t.2.1) z) (ps ++ [t]) := by
  intro u hu
  by_cases c : (u.1, u.2.1) = (t.1, t.2.1)
  · refine ⟨z, by rw [c, look_same], ?_⟩
    rcases List.mem_append.mp hu with hu | hu
    · obtain ⟨v, hv, hle⟩ := h u hu
      rw [c] at hv
      exact Int.le_trans (h2 v hv) hle
    · simp at hu; subst hu; exact h1
  · rcases List.mem_append.mp hu with hu | hu
    · rw [look_other _ _ c]; exact h u hu
    · simp at hu; subst hu; exact absurd rfl c
def sp_least_known (P : Program) (w : World) (K : PySem.W.Frag) : Sp := Pm 1 fun vs H Q => ∃ (pv : V) (ps : List Tr), vs = [pv] ∧ PapAt K H pv ps ∧ ps.length ≤ 100000 ∧ ∀ D es H', H D = none → Ex H H' → NdAt P w K H' D es → LowIn (kn es) ps → Q (.ref D) H'
/-! ### least_known -/
abbrev N_sc_least_known : List Str := ["paper", "found", "x", "y", "more"]
theorem sc_least_known : FnScope N_sc_least_known ["paper"] (defScope s_least_known) := ⟨rfl, rfl, rfl, by decide +kernel, rfl, by decide +kernel, by decide +kernel⟩
theorem cl_least_known {f : Addr} {fd : FuncData} (T : Tx K mg) (F : FnP K "least_known" "least_known" s_least_known f fd) (m : mg "least_known" = some (.ref f))  :
    Clb P w K mg base "least_known" 1 ["paper"] (sp_least_known P w K) := by
    refine clb_of m F (F.bindsN fun _ _ _ _ _ _ us hl => match us, hl with | [_], _ => rfl) (F.ok sc_least_known (fun _ _ _ _ h => by exact pm_len h) (fun cdv A outer s H vs Q E hr h => ?_))
    obtain ⟨_, pv', ps, rfl, ⟨a, vs, rfl, hS, hall⟩, hlen, q⟩ := h
    refine ⟨_, PSs.nox (pss_cons (ps_set (i := 1) sc_least_known.nd rfl (Or.inl rfl) (pe_newQ P w))
      (pss_cons (ps_for PassesOwn.never rfl (pi_tup (pv 0)) (pg_tupQ (n := 3) K rfl (pgs_cons (pg_name (i := 2) sc_least_known.nd rfl (Or.inl rfl)) (pgs_cons (pg_name (i := 3) sc_least_known.nd rfl (Or.inl rfl)) (pgs_cons (pg_name (i := 4) sc_least_known.nd rfl (Or.inl rfl)) pgs_nil))))
      (pss_one (ps_asg (pe_callB (call_min2 rfl) (by rfl) T.m_min (by decide +kernel) (pa_cons (pv 4) (pa_cons (pe_getQ P w K (u10 hr) (pv 1) (pe_tup (pa_cons (pv 2) (pa_cons (pv 3) pa_nil))) (pv 4) ⟨rfl, rfl, rfl, rfl⟩) pa_nil))) (pg_sub (pv 1) (pe_tup (pa_cons (pv 2) (pa_cons (pv 3) pa_nil))) (setQ P w K (u10 hr))))))
      (pss_one (ps_ret (pv 1))))), ?_⟩
    intro D hD
    have e0 := Evl.Ex.new (o := .ext (NDφ P w D [])) hD
    refine ⟨_, rfl, a, rfl, ⟨vs, Evl.ex_t e0 hS⟩, for_tup (K := K) (a := a) (xs := vs) (fun i σ H' => Ex H H' ∧ ∃ v2 v3 v4 es, σ = [some (.ref a), some (.ref D), v2, v3, v4] ∧ NdAt P w K H' D es ∧ LowIn (kn es) (ps.take i) ∧ es.length ≤ i) ⟨e0, none, none, none, [], rfl, ⟨upd_same, fun e he => by cases he⟩, (fun t ht => by cases ht), Nat.le_refl _⟩ (fun i σ H' _ h => Evl.ex_t h.1 hS) ?_ ?_⟩
    · rintro i tv σ H1 hi ⟨e1, v2, v3, v4, es, rfl, hnd, hlow, hel⟩
      obtain ⟨t, ht, hT⟩ := hall.get hi
      have hil : i < ps.length := (List.getElem?_eq_some_iff.mp ht).1
      obtain ⟨ta, p, r, rfl, h1, h2, h3⟩ := hT.ex e1
      refine ⟨ta, _, rfl, h1, rfl, _, _, rfl, _, _, rfl, _, _, rfl, rfl, ?_⟩
      refine ⟨_, rfl, _, rfl, ⟨D, es, rfl, hnd⟩, _, rfl, _, rfl, by show 2 ≤ sizeLine; decide, fun k1 hk1 => ⟨_, rfl, ?_⟩⟩
      have e2 := Evl.Ex.new (o := .tup [.ref p, .ref r]) hk1
      have hka : KeyAt K (upd H1 k1 (.tup [.ref p, .ref r])) k1 (t.1, t.2.1) := ⟨p, r, SqT.of upd_same, Evl.ex_t e2 h2, Evl.ex_t e2 h3⟩
      refine ⟨D, es, k1, (t.1, t.2.1), t.2.2, rfl, rfl, rfl, hnd.ex e2, hka, _, _, rfl, ?_⟩
      refine ⟨_, rfl, _, rfl, _, rfl, by show 2 ≤ sizeLine; decide, fun k2 hk2 => ?_⟩
      have e3 := Evl.Ex.new (o := .tup [.ref p, .ref r]) hk2
      have e23 := e2.trans e3
      have hkb : KeyAt K (upd (upd H1 k1 (.tup [.ref p, .ref r])) k2 (.tup [.ref p, .ref r])) k2 (t.1, t.2.1) := ⟨p, r, SqT.of upd_same, Evl.ex_t e23 h2, Evl.ex_t e23 h3⟩
      have hnd3 := hnd.ex e23
      refine ⟨D, es, k2, (t.1, t.2.1), _, rfl, rfl, rfl, hnd3, hkb, by rw [sizeLine_eq]; omega, ?_⟩
      refine ⟨Evl.Ex.mut (e1.trans e23) hD, _, _, _, _, rfl, hnd3.stored hkb, ?_, ?_⟩
      · rw [kn_put, take_snoc ht]
        refine hlow.put ?_ fun v hv => ?_
        · split <;> omega
        · rw [hv]
          show (if v < t.2.2 then v else t.2.2) ≤ v
          split <;> omega
      · exact Nat.le_trans (put_len _ _ _ _) (by omega)
    · rintro σ H1 ⟨e1, v2, v3, v4, es, rfl, hnd, hlow, hel⟩
      rw [hall.len, List.take_of_length_le (Nat.le_refl _)] at hlow
      exact ⟨_, rfl, q D es H1 hD e1 hnd hlow⟩
def sp_is_closed (P : Program) (w : World) (K : PySem.W.Frag) : Sp := Pm 5 fun vs H Q => ∃ (hv ov qv tv : V) (D : Addr) (es : En) (hl : Hl) (R S : Rl) (t : Tr), vs = [hv, ov, qv, .ref D, tv] ∧ HlOk hl ∧ HallAt K H hv hl ∧ RuleAt K H ov R ∧ RuleAt K H qv S ∧ NdAt P w K H D es ∧ TrAt K H tv t ∧
  RlOk hl.n hl.r R ∧ RlOk hl.n hl.r S ∧ Vl hl.n hl.r t.1 ∧ Vl hl.n hl.r t.2.1 ∧ (∀ m ∈ moves hl.n, ∃ v, look (kn es) ((both hl.r R S t m).1, (both hl.r R S t m).2.1) = some v ∧ v ≤ (both hl.r R S t m).2.2) ∧ ∀ H', Ex H H' → Q (.bl true) H'
/-! ### is_closed -/
abbrev N_sc_is_closed : List Str := ["hall", "one", "other", "known", "triple", "move", "x", "y", "more"]
theorem sc_is_closed : FnScope N_sc_is_closed ["hall", "one", "other", "known", "triple"] (defScope s_is_closed) := ⟨rfl, rfl, rfl, by decide +kernel, rfl, by decide +kernel, by decide +kernel⟩
theorem cl_is_closed {f : Addr} {fd : FuncData} (T : Tx K mg) (F : FnP K "is_closed" "is_closed" s_is_closed f fd) (m : mg "is_closed" = some (.ref f)) (C_all_moves : Clb P w K mg base "all_moves" 2 ["hall"] (sp_all_moves P w K)) (C_both_moved : Clb P w K mg base "both_moved" 9 ["hall", "one", "other", "triple", "move"] (sp_both_moved P w K)) :
    Clb P w K mg base "is_closed" 10 ["hall", "one", "other", "known", "triple"] (sp_is_closed P w K) := by
    refine clb_of m F (F.bindsN fun _ _ _ _ _ _ us hl => match us, hl with | [_, _, _, _, _], _ => rfl) (F.ok sc_is_closed (fun _ _ _ _ h => by exact pm_len h) (fun cdv A outer s H vs Q E hr h => ?_))
    obtain ⟨_, hv, ov, qv, tv, D, es, hl, R, S, t, rfl, ok, hH, hR, hS, hnd, hT, rok, sok, vx, vy, hcl, q⟩ := h
    refine ⟨_, PSs.nox (pss_cons (ps_for PassesOwn.never rfl (pi_list (pe_c C_all_moves hr (by rfl) (pa_cons (pv 0) pa_nil))) (pg_name (i := 5) sc_is_closed.nd rfl (Or.inl rfl))
      (pss_cons (ps_asg (pe_c C_both_moved hr (by rfl) (pa_cons (pv 0) (pa_cons (pv 1) (pa_cons (pv 2) (pa_cons (pv 4) (pa_cons (pv 5) pa_nil)))))) (pg_tupQ (n := 3) K rfl (pgs_cons (pg_name (i := 6) sc_is_closed.nd rfl (Or.inl rfl)) (pgs_cons (pg_name (i := 7) sc_is_closed.nd rfl (Or.inl rfl)) (pgs_cons (pg_name (i := 8) sc_is_closed.nd rfl (Or.inl rfl)) pgs_nil)))))
      (pss_one (ps_if (PW.pt (pw_or (pt_cmpR (notInQ P w K (u10 hr)) (pe_tup (pa_cons (pv 6) (pa_cons (pv 7) pa_nil))) (pv 3) rfl) (pw_or1 (pt_cmpR op_gt (pe_subQ P w K (u10 hr) (pv 3) (pe_tup (pa_cons (pv 6) (pa_cons (pv 7) pa_nil))) (fun _ _ => rfl)) (pv 8) (nomark _)))))
      (pss_one (ps_ret pe_bl))
      pss_nil))))
      (pss_one (ps_ret pe_bl))), ?_⟩
    refine ⟨_, rfl, rfl, _, hl, rfl, ok, hH, fun p H1 hp e1 hls => ?_⟩
    obtain ⟨ms, hms, hall⟩ := hls
    refine ⟨p, rfl, ⟨ms, SqL.of hms⟩, for_list (K := K) (a := p) (xs := ms) (fun i σ H' => Ex H1 H' ∧ ∃ v5 v6 v7 v8, σ = [some hv, some ov, some qv, some (.ref D), some tv, v5, v6, v7, v8]) ⟨Evl.Ex.refl H1, none, none, none, none, rfl⟩ (fun i σ H' _ h => SqL.of (h.1 _ _ hms)) ?_ ?_⟩
    · rintro i mv σ H2 hi ⟨e2, v5, v6, v7, v8, rfl⟩
      obtain ⟨m, hm, hM⟩ := hall.get hi
      have hmm := List.mem_of_getElem? hm
      have e12 := e1.trans e2
      obtain ⟨z, hz, hle⟩ := hcl m hmm
      refine ⟨_, rfl, _, rfl, _, rfl, _, rfl, _, rfl, rfl, _, _, _, _, _, hl, R, S, t, m, rfl, ok, hH.ex e12, hR.ex e12, hS.ex e12, hT.ex e12, hM.ex e2, rok, sok, vx, vy, hmm, fun v H3 e3 hv3 => ?_⟩
      obtain ⟨ta, p1, p2, rfl, h1, h2, h3⟩ := hv3
      have e13 := e12.trans e3
      refine ⟨ta, _, rfl, h1, rfl, _, _, rfl, _, _, rfl, _, _, rfl, rfl, ?_⟩
      refine ⟨_, rfl, _, rfl, by show 2 ≤ sizeLine; decide, fun k1 hk1 => ?_⟩
      have e4 := Evl.Ex.new (o := .tup [.ref p1, .ref p2]) hk1
      have hka : KeyAt K (upd H3 k1 (.tup [.ref p1, .ref p2])) k1 ((both hl.r R S t m).1, (both hl.r R S t m).2.1) := ⟨p1, p2, SqT.of upd_same, Evl.ex_t e4 h2, Evl.ex_t e4 h3⟩
      refine ⟨_, rfl, D, es, k1, _, rfl, rfl, hnd.ex (e13.trans e4), hka, _, rfl, ?_⟩
      rw [hz]
      refine iteF ?_
      refine ⟨_, rfl, _, rfl, _, rfl, by show 2 ≤ sizeLine; decide, fun k2 hk2 => ?_⟩
      have e5 := Evl.Ex.new (o := .tup [.ref p1, .ref p2]) hk2
      have e45 := e4.trans e5
      have hkb : KeyAt K (upd (upd H3 k1 (.tup [.ref p1, .ref p2])) k2 (.tup [.ref p1, .ref p2])) k2 ((both hl.r R S t m).1, (both hl.r R S t m).2.1) := ⟨p1, p2, SqT.of upd_same, Evl.ex_t e45 h2, Evl.ex_t e45 h3⟩
      refine ⟨D, es, k2, _, z, rfl, rfl, hnd.ex (e13.trans e45), hkb, hz, _, rfl, _, _, rfl, rfl, _, rfl, ite2 (fun c => absurd (of_decide_eq_true c) (by omega)) (fun _ => ?_)⟩
      exact ⟨e2.trans (e3.trans e45), _, _, _, _, rfl⟩
    · rintro σ H2 ⟨e2, v5, v6, v7, v8, rfl⟩
      exact q H2 (e1.trans e2)
end
end K58
set_option Elab.async false
set_option linter.all false
set_option maxRecDepth 100000
set_option maxHeartbeats 4000000
set_option autoImplicit false
namespace K58
open PySem PySem.Spec PyProof.Rows L2
open Evl (Ex)
section
variable {P : Program} {w : World} {K : PySem.W.Frag} {mg : Str → Option Value} {base : Heap}
def dTr (t : Tr) : PyData := .tuple [dRow t.1, dRow t.2.1, .int t.2.2]
theorem tr_dp {H : Hp} {v : V} {t : Tr} (h : TrAt K H v t) : Dp K H v (dTr t) := by
  obtain ⟨a, p, r, rfl, h1, h2, h3⟩ := h
  exact .tup h1 (.cons (RowAt.dp ⟨p, rfl, h2⟩) (.cons (RowAt.dp ⟨r, rfl, h3⟩) (.cons (.int _) .nil)))
theorem trs_dp {H : Hp} {vs : List V} {ps : List Tr} (h : AllR (TrAt K H) vs ps) : DpAll K H vs (ps.map dTr) := by
  induction h with
  | nil => exact .nil
  | cons h t ih => exact .cons (tr_dp h) ih
theorem lay_tr (t : Tr) : (dTr t).canLay0 = true := by
  unfold dTr
  simp [PyData.canLay0, PyData.canLayAll0, lay_row]
theorem lay_trs : ∀ ps : List Tr, PyData.canLayAll0 (ps.map dTr) = true
  | [] => by simp [PyData.canLayAll0]
  | t :: ps => by rw [List.map_cons, PyData.canLayAll0, lay_tr, lay_trs ps]; rfl
theorem shaped_tr (t : Tr) : SeqAt.shaped (dTr t) = true := by
  unfold SeqAt.shaped
  rw [lay_tr]
  unfold dTr dRow
  simp [PyData.depth, PyData.depthAll, depth_nums_d]
def sp_lets_never (P : Program) (w : World) (K : PySem.W.Frag) : Sp := Pm 4 fun vs H Q => ∃ (hv ov qv pv : V) (hl : Hl) (R S : Rl) (ps : List Tr), vs = [hv, ov, qv, pv] ∧ HlOk hl ∧ HallAt K H hv hl ∧ RuleAt K H ov R ∧ RuleAt K H qv S ∧ PapAt K H pv ps ∧
  RlOk hl.n hl.r R ∧ RlOk hl.n hl.r S ∧ PaperOk hl.n hl.r R S ps ∧ ps.length ≤ 100000 ∧ ∀ H', Ex H H' → Q (.bl true) H'
/-! ### lets_never -/
abbrev N_sc_lets_never : List Str := ["hall", "one", "other", "thing", "triple", "void", "known", "k"]
theorem sc_lets_never : FnScope N_sc_lets_never ["hall", "one", "other", "thing"] (defScope s_lets_never) := ⟨rfl, rfl, rfl, by decide +kernel, rfl, by decide +kernel, by decide +kernel⟩
theorem cl_lets_never {f : Addr} {fd : FuncData} (T : Tx K mg) (F : FnP K "lets_never" "lets_never" s_lets_never f fd) (m : mg "lets_never" = some (.ref f)) (C_ask_rules : Clb P w K mg base "ask_rules" 1 ["one", "other"] (sp_ask_rules P w K)) (C_first_stand : Clb P w K mg base "first_stand" 1 ["hall"] (sp_first_stand P w K)) (C_is_closed : Clb P w K mg base "is_closed" 10 ["hall", "one", "other", "known", "triple"] (sp_is_closed P w K)) (C_is_triple : Clb P w K mg base "is_triple" 5 ["hall", "thing"] (sp_is_triple P w K)) (C_is_worse : Clb P w K mg base "is_worse" 1 ["triple"] (sp_is_worse P w K)) (C_least_known : Clb P w K mg base "least_known" 1 ["paper"] (sp_least_known P w K)) :
    Clb P w K mg base "lets_never" 11 ["hall", "one", "other", "thing"] (sp_lets_never P w K) := by
    refine clb_of m F (F.bindsN fun _ _ _ _ _ _ us hl => match us, hl with | [_, _, _, _], _ => rfl) (F.ok sc_lets_never (fun _ _ _ _ h => by exact pm_len h) (fun cdv A outer s H vs Q E hr h => ?_))
    obtain ⟨_, hv, ov, qv, pv', hl, R, S, ps, rfl, ok, hH, hR, hS, hP, rok, sok, pok, hlen, q⟩ := h
    obtain ⟨a, vs, rfl, h1, hall⟩ := id hP
    have n0 := ok.n0
    refine ⟨_, PSs.nox (pss_cons (ps_expr (pe_c C_ask_rules hr (by rfl) (pa_cons (pv 1) (pa_cons (pv 2) pa_nil))))
      (pss_cons (ps_if (PW.pt (pw_or (pt_not (pt_val (pe_callB call_isi (by rfl) T.m_isinstance (by decide +kernel) (pa_cons (pv 3) (pa_cons (pe_bltn (v := .ty "tuple") (u := .type "tuple") (by rfl) T.m_tuple (by decide +kernel) rfl) pa_nil))) (fun _ => rfl))) (pw_or1 (pt_not (pt_val (pe_callB (cr_all rfl) (by rfl) T.m_all (by decide +kernel) (pa_cons (pe_lc (own := [("triple", 4)]) rfl sc_lets_never.nd (pi_tup (pv 3)) (blkOk_by (own := [("triple", 4)]) (N := N_sc_lets_never) (sc := defScope s_lets_never) (by decide +kernel)) (fun _ _ _ _ _ => pg_name (i := 4) sc_lets_never.nd rfl (Or.inl rfl)) (fun _ _ _ _ _ => pts_nil) (fun _ _ _ _ _ => (pe_c C_is_triple hr (by rfl) (pa_cons (pv 0) (pa_cons (pv 4) pa_nil))))) pa_nil)) (fun _ => rfl))))))
      pss_never
      pss_nil)
      (pss_cons (ps_set (i := 5) sc_lets_never.nd rfl (Or.inl rfl) (pe_ix (ixT K) (pe_c C_first_stand hr (by rfl) (pa_cons (pv 0) pa_nil)) pe_int (fun _ _ => rfl)))
      (pss_cons (ps_if (pt_cmpR (niT K (u65 hr)) (pe_tup (pa_cons (pv 5) (pa_cons (pv 5) (pa_cons pe_int pa_nil)))) (pv 3) rfl)
      pss_never
      pss_nil)
      (pss_cons (ps_set (i := 6) sc_lets_never.nd rfl (Or.inl rfl) (pe_c C_least_known hr (by rfl) (pa_cons (pv 3) pa_nil)))
      (pss_cons (ps_for PassesOwn.never rfl (pi_range1 (by rfl) T.m_range (pa_cons (pe_callB (lenQ K) (by rfl) T.m_len PySem.boot_len (pa_cons (pv 3) pa_nil)) pa_nil)) (pg_name (i := 7) sc_lets_never.nd rfl (Or.inl rfl))
      (pss_cons (ps_if (pt_val (pe_c C_is_worse hr (by rfl) (pa_cons (pe_ix (ixT K) (pv 3) (pv 7) (fun _ _ => rfl)) pa_nil)) (fun _ => rfl))
      pss_never
      pss_nil)
      (pss_one (ps_if (pt_not (pt_val (pe_c C_is_closed hr (by rfl) (pa_cons (pv 0) (pa_cons (pv 1) (pa_cons (pv 2) (pa_cons (pv 6) (pa_cons (pe_ix (ixT K) (pv 3) (pv 7) (fun _ _ => rfl)) pa_nil)))))) (fun _ => rfl)))
      pss_never
      pss_nil))))
      (pss_one (ps_ret pe_bl)))))))), ?_⟩
    refine ⟨_, rfl, _, rfl, rfl, _, _, R, S, rfl, hR, hS, ?_⟩
    refine ⟨_, rfl, _, _, _, _, _, rfl, .ty _, sqt_ty h1, kit_ty (r := true) (by decide +kernel), true, rfl, ?_⟩
    refine iteF ?_
    refine ⟨_, rfl, a, rfl, ⟨vs, h1⟩, fun D hD => lc_tup (K := K) (a := a) (xs := vs) (fun i H' => Ex H H' ∧ H' D = some (.lst ((List.replicate i true).map V.bl))) ⟨Evl.Ex.new hD, upd_same⟩ (fun i H' _ h => Evl.ex_t h.1 h1) ?_ ?_⟩
    · rintro i v H1 hi ⟨e1, hD1⟩
      obtain ⟨t, ht, hT⟩ := hall.get hi
      have hil : i < ps.length := (List.getElem?_eq_some_iff.mp ht).1
      obtain ⟨k1, k2, hw⟩ := pok.ks t (List.mem_of_getElem? ht)
      refine ⟨rfl, ?_⟩
      dsimp only [tYes]
      refine iteT ⟨_, rfl, _, rfl, rfl, _, _, hl, t, rfl, ok, hH.ex e1, hT.ex e1, k1, k2, ?_, fun H2 e2 => ⟨_, e2 _ _ hD1, ?_, Evl.Ex.mut (e1.trans e2) hD, ?_⟩⟩
      · unfold Worse at hw; omega
      · rw [List.length_map, List.length_replicate, sizeLine_eq]; omega
      · rw [upd_same, List.replicate_succ', List.map_append]; rfl
    · rintro H1 ⟨e1, hD1⟩
      refine ⟨D, _, rfl, SqL.of hD1, true, ?_, ?_⟩
      · rw [show (List.replicate vs.length true).all id = true by rw [List.all_eq_true]; intro b hb; exact (List.mem_replicate.mp hb).2]
      refine iteF ?_
      refine ⟨_, rfl, rfl, _, hl, rfl, ok, hH.ex e1, fun sv H2 e2 hs => ?_⟩
      obtain ⟨s1, vd, rfl, hs1, hvd⟩ := hs
      refine ⟨_, _, _, _, rfl, rfl, hs1, rfl, ?_⟩
      refine ⟨_, rfl, _, rfl, by show 3 ≤ sizeLine; decide, fun p3 hp3 => ?_⟩
      have e3 := Evl.Ex.new (o := .tup [.ref vd, .ref vd, .int 0]) hp3
      have e13 := (e1.trans e2).trans e3
      have hTv : TrAt K (upd H2 p3 (.tup [.ref vd, .ref vd, .int 0])) (.ref p3) (tvoid hl.n) := ⟨p3, vd, vd, rfl, SqT.of upd_same, Evl.ex_t e3 hvd, Evl.ex_t e3 hvd⟩
      refine ⟨_, rfl, dTr (tvoid hl.n), ps.map dTr, tr_dp hTv, .tup (Evl.ex_t e13 h1) (trs_dp (hall.tr e13)), shaped_tr _, lay_trs ps, _, rfl, ?_⟩
      rw [show ((ps.map dTr).any fun z => PyData.eqv z (dTr (tvoid hl.n))) = true by
        rw [List.any_eq_true]
        exact ⟨_, List.mem_map.mpr ⟨_, pok.begins, rfl⟩, SeqAt.eqv_refl _ (lay_tr _)⟩]
      refine iteF ?_
      refine ⟨_, rfl, rfl, _, ps, rfl, hP.ex e13, hlen, fun D2 es H4 hD2 e4 hnd hlow => ?_⟩
      have e14 := e13.trans e4
      refine ⟨_, rfl, a, _, rfl, .inr (Evl.ex_t e14 h1), _, rfl, by omega, by rw [hall.len]; omega, for_range (lo := 0) (n := vs.length) (fun i σ H' => Ex H4 H' ∧ ∃ v4 v7, σ = [some hv, some ov, some qv, some (.ref a), v4, some (.ref vd), some (.ref D2), v7]) ⟨Evl.Ex.refl H4, _, _, rfl⟩ ?_ ?_⟩
      · rintro i σ H5 hi ⟨e5, v4, v7, rfl⟩
        rw [hall.len] at hi
        have ht : ps[i]? = some ps[i] := List.getElem?_eq_getElem hi
        obtain ⟨tv, htv, hT⟩ := hall.get2 ht
        obtain ⟨k1, k2, hw⟩ := pok.ks ps[i] (List.getElem_mem hi)
        have e15 := e14.trans e5
        have hat : atI vs (0 + (i : Int)) = some tv := at_of (by omega) htv
        refine ⟨_, rfl, _, rfl, _, _, _, _, rfl, rfl, Evl.ex_t e15 h1, hat, rfl, _, ps[i], rfl, hT.ex e15, false, ?_, ?_⟩
        · rw [decide_eq_false hw]
        refine iteF ?_
        refine ⟨_, rfl, _, rfl, _, rfl, _, rfl, _, rfl, _, rfl, _, _, _, _, rfl, rfl, Evl.ex_t e15 h1, hat, rfl, _, _, _, _, D2, es, hl, R, S, ps[i], rfl, ok, hH.ex e15, hR.ex e15, hS.ex e15, hnd.ex e5, hT.ex e15, rok, sok, k1.1, k2.1, fun m hm => ?_, fun H6 e6 => ⟨true, rfl, ?_⟩⟩
        · obtain ⟨u, hu, f1, f2, f3⟩ := pok.closed ps[i] (List.getElem_mem hi) m hm
          obtain ⟨z, hz, hle⟩ := hlow u hu
          rw [f1, f2] at hz
          exact ⟨z, hz, Int.le_trans hle f3⟩
        · refine iteF ?_
          exact ⟨e5.trans e6, _, _, rfl⟩
      · rintro σ H5 ⟨e5, v4, v7, rfl⟩
        exact q H5 (e14.trans e5)
end
end K58
set_option Elab.async false
set_option linter.all false
set_option maxRecDepth 100000
set_option maxHeartbeats 4000000
set_option autoImplicit false
namespace K58
open PySem PySem.Spec PyProof.Rows L2
open Evl (Ex)
section
variable {P : Program} {w : World} {K : PySem.W.Frag} {mg : Str → Option Value} {base : Heap} {C : Addr}
/-! frames -/
/-- all but these stays -/
def But (ds : List Addr) (H H' : Hp) : Prop := ∀ a o, a ∉ ds → H a = some o → H' a = some o
theorem But.refl (ds : List Addr) (H : Hp) : But ds H H := fun _ _ _ h => h
theorem But.trans {ds : List Addr} {H H1 H2 : Hp} (a : But ds H H1) (b : But ds H1 H2) : But ds H H2 := fun c o h q => b c o h (a c o h q)
theorem But.ex {ds : List Addr} {H H' : Hp} (e : Ex H H') : But ds H H' := fun a o _ h => e a o h
/-- tuples stay -/
def Tu (K : PySem.W.Frag) (H H' : Hp) : Prop := ∀ a xs, SqT K H a xs → SqT K H' a xs
theorem Tu.refl (H : Hp) : Tu K H H := fun _ _ h => h
theorem Tu.trans {H H1 H2 : Hp} (a : Tu K H H1) (b : Tu K H1 H2) : Tu K H H2 := fun c o h => b c o (a c o h)
theorem Tu.ex {H H' : Hp} (e : Ex H H') : Tu K H H' := fun _ _ h => Evl.ex_t e h
theorem Tu.upd {H : Hp} {d : Addr} {o o' : HO} (h : H d = some o) (hn : ∀ xs, ¬ Rd H d (.tup xs)) : Tu K H (upd H d o') := fun a xs z => by
  have hne : ∀ ys, Rd H a (.tup ys) → a ≠ d := fun ys q e => hn ys (e ▸ q)
  rcases z with z | z
  · have := hne _ z
    rcases z with z | ⟨oo, z⟩
    · exact .inl (.inl (by rw [upd_ne this]; exact z))
    · exact .inl (.inr ⟨oo, by rw [upd_ne this]; exact z⟩)
  · exact .inr z
theorem notT {H : Hp} {d : Addr} {o : HO} (h : H d = some o) (h1 : ∀ xs, o ≠ .tup xs) (h2 : ∀ p u, o ≠ .frz p u) : ∀ xs, ¬ Rd H d (.tup xs) := by
  rintro xs (q | ⟨oo, q⟩)
  · rw [h] at q; exact h1 xs (Option.some.inj q)
  · rw [h] at q; exact h2 _ _ (Option.some.inj q)
theorem Tu.lst {H : Hp} {d : Addr} {xs : List V} {o' : HO} (h : H d = some (.lst xs)) : Tu K H (L2.upd H d o') := Tu.upd h (notT h (fun _ z => nomatch z) (fun _ _ z => nomatch z))
theorem Tu.ext {H : Hp} {d : Addr} {φ : Heap → Prop} {o' : HO} (h : H d = some (.ext φ)) : Tu K H (L2.upd H d o') := Tu.upd h (notT h (fun _ z => nomatch z) (fun _ _ z => nomatch z))
theorem Tu.ins {H : Hp} {d c x : Addr} {fs : List (Str × V)} {o' : HO} (h : H d = some (.ins c x fs)) : Tu K H (L2.upd H d o') := Tu.upd h (notT h (fun _ z => nomatch z) (fun _ _ z => nomatch z))
section
variable {H H' : Hp} {v : V}
theorem RowAt.tu {x : List Nat} (e : Tu K H H') (h : RowAt K H v x) : RowAt K H' v x := by
  obtain ⟨a, rfl, h⟩ := h
  exact ⟨a, rfl, e _ _ h⟩
theorem HallAt.tu {h : Hl} (e : Tu K H H') (q : HallAt K H v h) : HallAt K H' v h := by
  obtain ⟨a, co, se, sv, sp, rfl, h1, h2, h3, h4⟩ := q
  exact ⟨a, co, se, sv, sp, rfl, e _ _ h1, e _ _ h2, e _ _ h3, e _ _ h4⟩
theorem RuleAt.tu {R : Rl} (e : Tu K H H') (h : RuleAt K H v R) : RuleAt K H' v R := by
  cases R with
  | told ps =>
    obtain ⟨a, p, rfl, h1, h2⟩ := h
    exact ⟨a, p, rfl, e _ _ h1, e _ _ h2⟩
  | _ =>
    obtain ⟨a, rfl, h1⟩ := h
    exact ⟨a, rfl, e _ _ h1⟩
theorem MvAt.tu {m : Mv} (e : Tu K H H') (h : MvAt K H v m) : MvAt K H' v m := by
  cases m with
  | come o =>
    obtain ⟨a, p, rfl, h1, h2⟩ := h
    exact ⟨a, p, rfl, e _ _ h1, e _ _ h2⟩
  | _ =>
    obtain ⟨a, rfl, h1⟩ := h
    exact ⟨a, rfl, e _ _ h1⟩
theorem TrAt.tu {t : Tr} (e : Tu K H H') (h : TrAt K H v t) : TrAt K H' v t := by
  obtain ⟨a, p, q, rfl, h1, h2, h3⟩ := h
  exact ⟨a, p, q, rfl, e _ _ h1, e _ _ h2, e _ _ h3⟩
theorem KeyAt.tu {a : Addr} {k : Ky} (e : Tu K H H') (h : KeyAt K H a k) : KeyAt K H' a k := by
  obtain ⟨b, c, h1, h2, h3⟩ := h
  exact ⟨b, c, e _ _ h1, e _ _ h2, e _ _ h3⟩
end
/-! the search's object -/
abbrev Ah := Option (Nat × Mv)
def AhAt (K : PySem.W.Frag) (H : Hp) (v : V) : Ah → Prop
  | none => v = .non
  | some (i, m) => ∃ a mv, v = .ref a ∧ SqT K H a [.int (i : Int), mv] ∧ MvAt K H mv m
theorem AhAt.tu {H H' : Hp} {v : V} {o : Ah} (e : Tu K H H') (h : AhAt K H v o) : AhAt K H' v o := by
  cases o with
  | none => exact h
  | some p =>
    obtain ⟨i, m⟩ := p
    obtain ⟨a, mv, rfl, h1, h2⟩ := h
    exact ⟨a, mv, rfl, e _ _ h1, h2.tu e⟩
def pf (hv ov qv : V) (L A D : Addr) : List (Str × V) := [("hall", hv), ("one", ov), ("other", qv), ("line", .ref L), ("ahead_of", .ref A), ("least_of", .ref D)]
structure PsSt (P : Program) (w : World) (K : PySem.W.Frag) (C : Addr) (H : Hp) (p : Addr) (hv ov qv : V) (L A D : Addr) (Ls : List Tr) (As : List Ah) (es : En) : Prop where
  ins : ∃ dx, H p = some (.ins C dx (pf hv ov qv L A D))
  line : ∃ vs, H L = some (.lst vs) ∧ AllR (TrAt K H) vs Ls
  ahead : ∃ vs, H A = some (.lst vs) ∧ AllR (AhAt K H) vs As
  nd : NdAt P w K H D es
  ne : L ≠ A
theorem PsSt.ex {H H' : Hp} {p : Addr} {hv ov qv : V} {L A D : Addr} {Ls : List Tr} {As : List Ah} {es : En} (e : Ex H H') (h : PsSt P w K C H p hv ov qv L A D Ls As es) : PsSt P w K C H' p hv ov qv L A D Ls As es := by
  obtain ⟨⟨dx, h1⟩, ⟨vs, h2, h3⟩, ⟨us, h4, h5⟩, h6, h7⟩ := h
  exact ⟨⟨dx, e _ _ h1⟩, ⟨vs, e _ _ h2, h3.tr e⟩, ⟨us, e _ _ h4, h5.mono fun _ _ z => z.tu (Tu.ex e)⟩, h6.ex e, h7⟩
section
variable {hv ov qv : V} {L A D : Addr}
theorem pf_hall : (pf hv ov qv L A D).lookup ("hall" : Str) = some hv := by rfl
theorem pf_one : (pf hv ov qv L A D).lookup ("one" : Str) = some ov := by rfl
theorem pf_other : (pf hv ov qv L A D).lookup ("other" : Str) = some qv := by rfl
theorem pf_line : (pf hv ov qv L A D).lookup ("line" : Str) = some (.ref L) := by rfl
theorem pf_ahead : (pf hv ov qv L A D).lookup ("ahead_of" : Str) = some (.ref A) := by rfl
theorem pf_least : (pf hv ov qv L A D).lookup ("least_of" : Str) = some (.ref D) := by rfl
theorem pf_run_to : (pf hv ov qv L A D).lookup ("run_to" : Str) = none := by rfl
theorem pf_met : (pf hv ov qv L A D).lookup ("met" : Str) = none := by rfl
theorem pf_worse_run : (pf hv ov qv L A D).lookup ("worse_run" : Str) = none := by rfl
end
theorem putF_new {x : Str} {v : V} : ∀ {fs : List (Str × V)}, (∀ e ∈ fs, e.1 ≠ x) → putF x v fs = fs ++ [(x, v)]
  | [], _ => rfl
  | (g, y) :: r, h => by
    show (if g = x then (g, v) :: r else (g, y) :: putF x v r) = _
    rw [if_neg (h (g, y) (List.mem_cons_self ..)), putF_new fun e he => h e (List.mem_cons_of_mem _ he)]
    rfl
end
end K58
set_option Elab.async false
set_option linter.all false
set_option maxRecDepth 100000
set_option maxHeartbeats 4000000
set_option autoImplicit false
namespace K58
open PySem PySem.Spec PyProof.Rows L2
open Evl (Ex)
section
variable {P : Program} {w : World} {K : PySem.W.Frag} {mg : Str → Option Value} {base : Heap} {C : Addr}
theorem upd_but {H : Hp} {d : Addr} {o : HO} {ds : List Addr} (h : d ∈ ds) : But ds H (upd H d o) := fun a u hn q => by
  have hne : a ≠ d := fun e => hn (by rw [e]; exact h)
  rw [upd_ne hne]
  exact q
def sp_Pairs_init (P : Program) (w : World) (K : PySem.W.Frag) (C : Addr) : Sp := Pm 4 fun vs H Q => ∃ (p dx : Addr) (hv ov qv : V) (hl : Hl), vs = [.ref p, hv, ov, qv] ∧ H p = some (.ins C dx []) ∧ HlOk hl ∧ HallAt K H hv hl ∧
  ∀ H' L A D ka, But [p] H H' → PsSt P w K C H' p hv ov qv L A D [tvoid hl.n] [none] [((void hl.n, void hl.n), ka, 0)] → H L = none → H A = none → H D = none → Q .non H'
/-! ### Pairs.__init__ -/
abbrev N_sc_Pairs_init : List Str := ["self", "hall", "one", "other", "void"]
theorem sc_Pairs_init : FnScope N_sc_Pairs_init ["self", "hall", "one", "other"] (defScope s_Pairs_init) := ⟨rfl, rfl, rfl, by decide +kernel, rfl, by decide +kernel, by decide +kernel⟩
theorem mk_Pairs {f : Addr} {fd : FuncData} (T : Tx K mg) (TP : Tp K mg C) (MK : Mk K C f) (F : FnP K "__init__" "Pairs.__init__" s_Pairs_init f fd) (C_first_stand : Clb P w K mg base "first_stand" 1 ["hall"] (sp_first_stand P w K))  :
    Mkb P w K mg base C 2 ["self", "hall", "one", "other"] (sp_Pairs_init P w K C) := by
    refine ⟨f, fd, MK, F.bindsN fun _ _ _ _ _ _ us hl => match us, hl with | [_, _, _, _], _ => rfl, F.ok sc_Pairs_init (fun _ _ _ _ h => by exact pm_len h) (fun cdv A outer s H vs Q E hr h => ?_)⟩
    obtain ⟨_, p, dx, hv, ov, qv, hl, rfl, hp, ok, hH, q⟩ := h
    refine ⟨_, PSs.nox (pss_cons (ps_fld (pv 0) (pv 1) rfl)
      (pss_cons (ps_fld (pv 0) (pv 2) rfl)
      (pss_cons (ps_fld (pv 0) (pv 3) rfl)
      (pss_cons (ps_set (i := 4) sc_Pairs_init.nd rfl (Or.inl rfl) (pe_ix (ixT K) (pe_c C_first_stand hr (by rfl) (pa_cons (pv 1) pa_nil)) pe_int (fun _ _ => rfl)))
      (pss_cons (ps_fld (pv 0) (pe_lst (pa_cons (pe_tup (pa_cons (pv 4) (pa_cons (pv 4) (pa_cons pe_int pa_nil)))) pa_nil)) rfl)
      (pss_cons (ps_fld (pv 0) (pe_lst (pa_cons pe_non pa_nil)) rfl)
      (pss_one (ps_fld (pv 0) (pe_dispQ P w K (u10 hr) (pe_tup (pa_cons (pv 4) (pa_cons (pv 4) pa_nil))) pe_int) rfl)))))))), ?_⟩
    refine ⟨_, rfl, _, rfl, p, C, dx, [], rfl, hp, TP.cl, TP.n_hall, (by show 0 < 1000; decide), ?_⟩
    refine ⟨_, rfl, _, rfl, p, C, dx, _, rfl, upd_same, TP.cl, TP.n_one, (by show 1 < 1000; decide), ?_⟩
    refine ⟨_, rfl, _, rfl, p, C, dx, _, rfl, upd_same, TP.cl, TP.n_other, (by show 2 < 1000; decide), ?_⟩
    rw [upd_upd, upd_upd]
    have e1 : putF "other" qv (putF "one" ov (putF "hall" hv [])) = ([("hall", hv), ("one", ov), ("other", qv)] : List (Str × V)) := rfl
    rw [e1]
    have t1 : Tu K H (upd H p (.ins C dx [("hall", hv), ("one", ov), ("other", qv)])) := Tu.ins hp
    have b1 : But [p] H (upd H p (.ins C dx [("hall", hv), ("one", ov), ("other", qv)])) := upd_but (List.mem_singleton.mpr rfl)
    have hp1 : upd H p (.ins C dx [("hall", hv), ("one", ov), ("other", qv)]) p = some (.ins C dx [("hall", hv), ("one", ov), ("other", qv)]) := upd_same
    have n1 : ∀ a, upd H p (.ins C dx [("hall", hv), ("one", ov), ("other", qv)]) a = none → H a = none := fun a h => by
      by_cases c : a = p
      · subst c; rw [upd_same] at h; cases h
      · rw [upd_ne c] at h; exact h
    generalize upd H p (.ins C dx [("hall", hv), ("one", ov), ("other", qv)]) = H1 at *
    refine ⟨_, rfl, rfl, _, hl, rfl, ok, hH.tu t1, fun sv H2 e2 hs => ?_⟩
    obtain ⟨s1, vd, rfl, hs1, hvd⟩ := hs
    refine ⟨_, _, _, _, rfl, rfl, hs1, rfl, ?_⟩
    refine ⟨_, rfl, _, rfl, by show 3 ≤ sizeLine; decide, fun p3 hp3 => ⟨by show 1 ≤ sizeLine; decide, fun L hL => ?_⟩⟩
    have e3 := Evl.Ex.new (o := .tup [.ref vd, .ref vd, .int 0]) hp3
    have e4 := Evl.Ex.new (o := .lst [.ref p3]) hL
    have hT : TrAt K (upd (upd H2 p3 (.tup [.ref vd, .ref vd, .int 0])) L (.lst [.ref p3])) (.ref p3) (tvoid hl.n) := ⟨p3, vd, vd, rfl, Evl.ex_t e4 (SqT.of upd_same), Evl.ex_t (e3.trans e4) hvd, Evl.ex_t (e3.trans e4) hvd⟩
    have hL0 := Evl.fresh_back (e2.trans e3) hL
    have hp4 := (e2.trans (e3.trans e4)) _ _ hp1
    have hvd4 := Evl.ex_t (e3.trans e4) hvd
    have e14 := e2.trans (e3.trans e4)
    have hLs : (upd (upd H2 p3 (.tup [.ref vd, .ref vd, .int 0])) L (.lst [.ref p3])) L = some (.lst [.ref p3]) := upd_same
    generalize upd (upd H2 p3 (.tup [.ref vd, .ref vd, .int 0])) L (.lst [.ref p3]) = H4 at *
    refine ⟨_, rfl, p, C, dx, _, rfl, hp4, TP.cl, TP.n_line, (by show 3 < 1000; decide), ?_⟩
    have e5 : putF "line" (.ref L) ([("hall", hv), ("one", ov), ("other", qv)] : List (Str × V)) = ([("hall", hv), ("one", ov), ("other", qv), ("line", .ref L)] : List (Str × V)) := rfl
    rw [e5]
    have t5 : Tu K H4 (upd H4 p (.ins C dx [("hall", hv), ("one", ov), ("other", qv), ("line", .ref L)])) := Tu.ins hp4
    have b5 : But [p] H4 (upd H4 p (.ins C dx [("hall", hv), ("one", ov), ("other", qv), ("line", .ref L)])) := upd_but (List.mem_singleton.mpr rfl)
    have nLp : L ≠ p := ne_of hLs hp4 (fun z => nomatch z)
    have hL5 : upd H4 p (.ins C dx [("hall", hv), ("one", ov), ("other", qv), ("line", .ref L)]) L = some (.lst [.ref p3]) := by rw [upd_ne nLp]; exact hLs
    have hp5 : upd H4 p (.ins C dx [("hall", hv), ("one", ov), ("other", qv), ("line", .ref L)]) p = some (.ins C dx [("hall", hv), ("one", ov), ("other", qv), ("line", .ref L)]) := upd_same
    have n5 : ∀ a, upd H4 p (.ins C dx [("hall", hv), ("one", ov), ("other", qv), ("line", .ref L)]) a = none → H4 a = none := fun a h => by
      by_cases c : a = p
      · subst c; rw [upd_same] at h; cases h
      · rw [upd_ne c] at h; exact h
    generalize upd H4 p (.ins C dx [("hall", hv), ("one", ov), ("other", qv), ("line", .ref L)]) = H5 at *
    refine ⟨by show 1 ≤ sizeLine; decide, fun A hA => ?_⟩
    have e6 := Evl.Ex.new (o := .lst [.non]) hA
    have hA0 : H1 A = none := Evl.fresh_back e14 (n5 A hA)
    have hA6 : upd H5 A (.lst [.non]) A = some (.lst [.non]) := upd_same
    have n6 : ∀ a, upd H5 A (.lst [.non]) a = none → H5 a = none := fun a h => Evl.fresh_back e6 h
    have nLA : L ≠ A := ne_of_none hL5 hA
    generalize upd H5 A (.lst [.non]) = H6 at *
    refine ⟨_, rfl, p, C, dx, _, rfl, e6 _ _ hp5, TP.cl, TP.n_ahead_of, (by show 4 < 1000; decide), ?_⟩
    have e7 : putF "ahead_of" (.ref A) ([("hall", hv), ("one", ov), ("other", qv), ("line", .ref L)] : List (Str × V)) = ([("hall", hv), ("one", ov), ("other", qv), ("line", .ref L), ("ahead_of", .ref A)] : List (Str × V)) := rfl
    rw [e7]
    have t7 : Tu K H6 (upd H6 p (.ins C dx [("hall", hv), ("one", ov), ("other", qv), ("line", .ref L), ("ahead_of", .ref A)])) := Tu.ins (e6 _ _ hp5)
    have b7 : But [p] H6 (upd H6 p (.ins C dx [("hall", hv), ("one", ov), ("other", qv), ("line", .ref L), ("ahead_of", .ref A)])) := upd_but (List.mem_singleton.mpr rfl)
    have nAp : A ≠ p := ne_of hA6 (e6 _ _ hp5) (fun z => nomatch z)
    have hL7 : upd H6 p (.ins C dx [("hall", hv), ("one", ov), ("other", qv), ("line", .ref L), ("ahead_of", .ref A)]) L = some (.lst [.ref p3]) := by rw [upd_ne nLp]; exact e6 _ _ hL5
    have hA7 : upd H6 p (.ins C dx [("hall", hv), ("one", ov), ("other", qv), ("line", .ref L), ("ahead_of", .ref A)]) A = some (.lst [.non]) := by rw [upd_ne nAp]; exact hA6
    have hp7 : upd H6 p (.ins C dx [("hall", hv), ("one", ov), ("other", qv), ("line", .ref L), ("ahead_of", .ref A)]) p = some (.ins C dx [("hall", hv), ("one", ov), ("other", qv), ("line", .ref L), ("ahead_of", .ref A)]) := upd_same
    have n7 : ∀ a, upd H6 p (.ins C dx [("hall", hv), ("one", ov), ("other", qv), ("line", .ref L), ("ahead_of", .ref A)]) a = none → H6 a = none := fun a h => by
      by_cases c : a = p
      · subst c; rw [upd_same] at h; cases h
      · rw [upd_ne c] at h; exact h
    generalize upd H6 p (.ins C dx [("hall", hv), ("one", ov), ("other", qv), ("line", .ref L), ("ahead_of", .ref A)]) = H7 at *
    intro D hD
    have e8 := Evl.Ex.new (o := .ext (NDφ P w D [])) hD
    have hD0 : H1 D = none := Evl.fresh_back e14 (n5 D (n6 D (n7 D hD)))
    refine ⟨_, rfl, _, rfl, by show 2 ≤ sizeLine; decide, fun ka hka => ?_⟩
    have e9 := Evl.Ex.new (o := .tup [.ref vd, .ref vd]) hka
    have t47 : Tu K H4 H7 := t5.trans ((Tu.ex e6).trans t7)
    have e89 := e8.trans e9
    have hkey : KeyAt K (upd (upd H7 D (.ext (NDφ P w D []))) ka (.tup [.ref vd, .ref vd])) ka (void hl.n, void hl.n) := ⟨vd, vd, SqT.of upd_same, Evl.ex_t e89 (t47 _ _ hvd4), Evl.ex_t e89 (t47 _ _ hvd4)⟩
    have hD9 : (upd (upd H7 D (.ext (NDφ P w D []))) ka (.tup [.ref vd, .ref vd])) D = some (.ext (NDφ P w D [])) := e9 _ _ upd_same
    have hp9 := e89 _ _ hp7
    have hL9 := e89 _ _ hL7
    have hA9 := e89 _ _ hA7
    have hT9 := (hT.tu t47).ex e89
    have b79 : But [p] H7 (upd (upd H7 D (.ext (NDφ P w D []))) ka (.tup [.ref vd, .ref vd])) := But.ex e89
    generalize upd (upd H7 D (.ext (NDφ P w D []))) ka (.tup [.ref vd, .ref vd]) = H9 at *
    refine ⟨hD9, ka, (void hl.n, void hl.n), 0, rfl, rfl, hkey, ?_⟩
    have nLD : L ≠ D := ne_of hL9 hD9 (fun z => nomatch z)
    have nAD : A ≠ D := ne_of hA9 hD9 (fun z => nomatch z)
    have npD : p ≠ D := ne_of hp9 hD9 (fun z => nomatch z)
    have tD : Tu K H9 (upd H9 D (.ext (NDφ P w D [((void hl.n, void hl.n), ka, 0)]))) := Tu.ext hD9
    have hp10 : upd H9 D (.ext (NDφ P w D [((void hl.n, void hl.n), ka, 0)])) p = some (.ins C dx [("hall", hv), ("one", ov), ("other", qv), ("line", .ref L), ("ahead_of", .ref A)]) := by rw [upd_ne npD]; exact hp9
    refine ⟨_, rfl, p, C, dx, _, rfl, hp10, TP.cl, TP.n_least_of, (by show 5 < 1000; decide), ?_⟩
    have e10 : putF "least_of" (.ref D) ([("hall", hv), ("one", ov), ("other", qv), ("line", .ref L), ("ahead_of", .ref A)] : List (Str × V)) = pf hv ov qv L A D := rfl
    rw [e10]
    have tp := Tu.ins (K := K) (o' := .ins C dx (pf hv ov qv L A D)) hp10
    have tz := tD.trans tp
    refine q _ L A D ka ?_ ⟨⟨dx, upd_same⟩, ⟨[.ref p3], by rw [upd_ne nLp, upd_ne nLD]; exact hL9, .cons (hT9.tu tz) .nil⟩, ⟨[.non], by rw [upd_ne nAp, upd_ne nAD]; exact hA9, .cons rfl .nil⟩, ⟨by rw [upd_ne npD.symm, upd_same], fun e he => ?_⟩, nLA⟩ ?_ ?_ ?_
    · have b9 : But [p] H H9 := ((b1.trans (But.ex e14)).trans (b5.trans ((But.ex e6).trans b7))).trans b79
      intro a o ha ho
      have nap : a ≠ p := fun z => ha (List.mem_singleton.mpr z)
      have naD : a ≠ D := fun z => by
        have := b1 a o ha ho
        rw [z, hD0] at this; cases this
      rw [upd_ne nap, upd_ne naD]
      exact b9 a o ha ho
    · simp at he
      subst he
      exact hkey.tu tz
    · exact n1 L hL0
    · exact n1 A hA0
    · exact n1 D hD0
def sp_Pairs_run_to (P : Program) (w : World) (K : PySem.W.Frag) (C : Addr) : Sp := Pm 2 fun vs H Q => ∃ (p : Addr) (k : Nat) (hv ov qv : V) (L A D : Addr) (Ls : List Tr) (As : List Ah) (es : En), vs = [.ref p, .int k] ∧ PsSt P w K C H p hv ov qv L A D Ls As es ∧
  k < As.length ∧ (∀ (i j : Nat) (m : Mv), As[i]? = some (some (j, m)) → j < i) ∧ As.length ≤ 1000000 ∧ ∀ a xs H', Ex H H' → SqT K H' a xs → xs.length ≤ 1000000 → Q (.ref a) H'
/-! ### Pairs.run_to -/
abbrev N_sc_Pairs_run_to : List Str := ["self", "at", "found", "move"]
theorem sc_Pairs_run_to : FnScope N_sc_Pairs_run_to ["self", "at"] (defScope s_Pairs_run_to) := ⟨rfl, rfl, rfl, by decide +kernel, rfl, by decide +kernel, by decide +kernel⟩
theorem mt_run_to {f : Addr} {fd : FuncData} (T : Tx K mg) (TP : Tp K mg C) (MT : Meth K C "run_to" f) (F : FnP K "run_to" "Pairs.run_to" s_Pairs_run_to f fd)   :
    Mtb P w K mg base C "run_to" 1 ["self", "at"] (sp_Pairs_run_to P w K C) := by
    refine ⟨f, fd, MT, F.bindsN fun _ _ _ _ _ _ us hl => match us, hl with | [_, _], _ => rfl, F.ok sc_Pairs_run_to (fun _ _ _ _ h => by exact pm_len h) (fun cdv A outer s H vs Q E hr h => ?_)⟩
    obtain ⟨_, p, k, hv, ov, qv, L, A, D, Ls, As, es, rfl, hps, hk, hord, hlen, q⟩ := h
    obtain ⟨dx, hins⟩ := hps.ins
    obtain ⟨as, hA, hall⟩ := hps.ahead
    refine ⟨_, PSs.nox (pss_cons (ps_set (i := 2) sc_Pairs_run_to.nd rfl (Or.inl rfl) (pe_lst pa_nil))
      (pss_cons (ps_while PassesOwn.never (pt_cmpR op_notN (pe_ix (ixL K) (pe_fld (pv 0) rfl) (pv 1) (fun _ _ => rfl)) pe_non (nomark _))
      (pss_cons (ps_asg (pe_ix (ixL K) (pe_fld (pv 0) rfl) (pv 1) (fun _ _ => rfl)) (pg_tupQ (n := 2) K rfl (pgs_cons (pg_name (i := 1) sc_Pairs_run_to.nd rfl (Or.inl rfl)) (pgs_cons (pg_name (i := 3) sc_Pairs_run_to.nd rfl (Or.inl rfl)) pgs_nil))))
      (pss_one (ps_expr (pe_bm PySem.F.plainAttrs_list PySem.F.slot_list_append PySem.F.type_list_append mt_append (pv 2) (pa_cons (pv 3) pa_nil))))))
      (pss_one (ps_ret (RT.pe_tupRev rfl (by rfl) T.m_tuple (by rfl) T.m_reversed (pv 2)))))), ?_⟩
    refine ⟨Nat.zero_le _, fun F0 hF0 => ?_⟩
    have e0 := Evl.Ex.new (o := .lst []) hF0
    refine ⟨fun m σ H' => Ex H H' ∧ ∃ v3 fs, σ = [some (.ref p), some (.int (m : Nat)), some (.ref F0), v3] ∧ m < As.length ∧ H' F0 = some (.lst fs) ∧ fs.length + m ≤ k, ⟨k, e0, _, [], rfl, hk, upd_same, by simp⟩, ?_⟩
    rintro m σ H1 ⟨e1, v3, fs, rfl, hm, hF, hfs⟩
    have hAm : As[m]? = some As[m] := List.getElem?_eq_getElem hm
    obtain ⟨av, hav, hAh⟩ := hall.get2 hAm
    refine ⟨_, rfl, p, C, dx, _, _, rfl, e1 _ _ hins, TP.cl, TP.n_ahead_of, pf_ahead, _, rfl, _, _, _, _, rfl, rfl, SqL.of (e1 _ _ hA), at_of rfl hav, rfl, _, rfl, ?_⟩
    have hAh1 := hAh.tu (Tu.ex e1)
    cases hc : As[m] with
    | none =>
      rw [hc] at hAh1
      obtain rfl : av = .non := hAh1
      refine iteF ?_
      refine ⟨_, rfl, F0, fs, rfl, SqL.of hF, fun r hr => ?_⟩
      exact q r _ _ (e1.trans (Evl.Ex.new hr)) (SqT.of upd_same) (by rw [List.length_reverse]; omega)
    | some jm =>
      obtain ⟨j, mv⟩ := jm
      rw [hc] at hAh1
      obtain ⟨a, u, rfl, h1, h2⟩ := hAh1
      have hj : j < m := hord m j mv (by rw [hAm, hc])
      refine iteT ?_
      refine ⟨fun σ' H' => ∃ m', m' < m ∧ (Ex H H' ∧ ∃ v3 fs, σ' = [some (.ref p), some (.int (m' : Nat)), some (.ref F0), v3] ∧ m' < As.length ∧ H' F0 = some (.lst fs) ∧ fs.length + m' ≤ k), fun _ _ h => h, ?_⟩
      refine ⟨_, rfl, p, C, dx, _, _, rfl, e1 _ _ hins, TP.cl, TP.n_ahead_of, pf_ahead, _, rfl, _, _, _, _, rfl, rfl, SqL.of (e1 _ _ hA), at_of rfl hav, a, _, rfl, h1, rfl, _, _, rfl, _, _, rfl, rfl, ?_⟩
      refine ⟨_, rfl, .inl ⟨rfl, _, SqL.of hF⟩, _, rfl, F0, fs, _, rfl, rfl, hF, by rw [sizeLine_eq]; omega, ?_⟩
      exact ⟨j, hj, Evl.Ex.mut e1 hF0, _, _, rfl, by omega, upd_same, by rw [List.length_append]; simp; omega⟩
/-- met's condition -/
def mc (M : Kn) (t : Tr) : Bool := decide (look M (t.1, t.2.1) = none ∨ t.2.2 < (look M (t.1, t.2.1)).getD 0)
def metA (As : List Ah) (M : Kn) (t : Tr) (k : Nat) (m : Mv) : List Ah := if mc M t = true then As ++ [some (k, m)] else As
def sp_Pairs_met (P : Program) (w : World) (K : PySem.W.Frag) (C : Addr) : Sp := Pm 4 fun vs H Q => ∃ (p : Addr) (k : Nat) (hv ov qv mv tv : V) (L A D : Addr) (Ls : List Tr) (As : List Ah) (es : En) (m : Mv) (t : Tr), vs = [.ref p, .int k, mv, tv] ∧ PsSt P w K C H p hv ov qv L A D Ls As es ∧
  TrAt K H tv t ∧ MvAt K H mv m ∧ Ls.length ≤ 1000000 ∧ As.length ≤ 1000000 ∧ es.length ≤ 1000000 ∧
  ∀ H' es', But [L, A, D] H H' → Tu K H H' → kn es' = metM (kn es) t → PsSt P w K C H' p hv ov qv L A D (metL Ls (kn es) t) (metA As (kn es) t k m) es' → Q .non H'
/-! ### Pairs.met -/
abbrev N_sc_Pairs_met : List Str := ["self", "at", "move", "triple", "x", "y", "more"]
theorem sc_Pairs_met : FnScope N_sc_Pairs_met ["self", "at", "move", "triple"] (defScope s_Pairs_met) := ⟨rfl, rfl, rfl, by decide +kernel, rfl, by decide +kernel, by decide +kernel⟩
theorem mt_met {f : Addr} {fd : FuncData} (T : Tx K mg) (TP : Tp K mg C) (MT : Meth K C "met" f) (F : FnP K "met" "Pairs.met" s_Pairs_met f fd)   :
    Mtb P w K mg base C "met" 1 ["self", "at", "move", "triple"] (sp_Pairs_met P w K C) := by
    refine ⟨f, fd, MT, F.bindsN fun _ _ _ _ _ _ us hl => match us, hl with | [_, _, _, _], _ => rfl, F.ok sc_Pairs_met (fun _ _ _ _ h => by exact pm_len h) (fun cdv A outer s H vs Q E hr h => ?_)⟩
    obtain ⟨_, p, k, hv, ov, qv, mv, tv, L, A, D, Ls, As, es, m, t, rfl, hps, hT, hM, l1, l2, l3, q⟩ := h
    obtain ⟨dx, hins⟩ := hps.ins
    obtain ⟨ls, hL, hlall⟩ := hps.line
    obtain ⟨as, hA, haall⟩ := hps.ahead
    have hnd := hps.nd
    obtain ⟨ta, x, y, rfl, h1, h2, h3⟩ := id hT
    have nLD : L ≠ D := ne_of hL hnd.1 (fun z => nomatch z)
    have nAD : A ≠ D := ne_of hA hnd.1 (fun z => nomatch z)
    have npD : p ≠ D := ne_of hins hnd.1 (fun z => nomatch z)
    have npL : p ≠ L := ne_of hins hL (fun z => nomatch z)
    have npA : p ≠ A := ne_of hins hA (fun z => nomatch z)
    refine ⟨_, PSs.nox (pss_cons (ps_asg (pv 3) (pg_tupQ (n := 3) K rfl (pgs_cons (pg_name (i := 4) sc_Pairs_met.nd rfl (Or.inl rfl)) (pgs_cons (pg_name (i := 5) sc_Pairs_met.nd rfl (Or.inl rfl)) (pgs_cons (pg_name (i := 6) sc_Pairs_met.nd rfl (Or.inl rfl)) pgs_nil)))))
      (pss_one (ps_if (PW.pt (pw_or (pt_cmpR (notInQ P w K (u10 hr)) (pe_tup (pa_cons (pv 4) (pa_cons (pv 5) pa_nil))) (pe_fld (pv 0) rfl) rfl) (pw_or1 (pt_cmpR op_lt (pv 6) (pe_subQ P w K (u10 hr) (pe_fld (pv 0) rfl) (pe_tup (pa_cons (pv 4) (pa_cons (pv 5) pa_nil))) (fun _ _ => rfl)) (nomark _)))))
      (pss_cons (ps_asg (pv 6) (pg_sub (pe_fld (pv 0) rfl) (pe_tup (pa_cons (pv 4) (pa_cons (pv 5) pa_nil))) (setQ P w K (u10 hr))))
      (pss_cons (ps_expr (pe_bm PySem.F.plainAttrs_list PySem.F.slot_list_append PySem.F.type_list_append mt_append (pe_fld (pv 0) rfl) (pa_cons (pv 3) pa_nil)))
      (pss_one (ps_expr (pe_bm PySem.F.plainAttrs_list PySem.F.slot_list_append PySem.F.type_list_append mt_append (pe_fld (pv 0) rfl) (pa_cons (pe_tup (pa_cons (pv 1) (pa_cons (pv 2) pa_nil))) pa_nil))))))
      pss_nil))), ?_⟩
    refine ⟨_, rfl, ta, _, rfl, h1, rfl, _, _, rfl, _, _, rfl, _, _, rfl, rfl, ?_⟩
    dsimp only
    refine Evl.s_if (b := mc (kn es) t) (fun H1 e1 Q1 hQ1 => ?_) (fun hb H1 e1 => ?_) (fun hb H1 e1 => ?_)
    · refine ⟨_, rfl, _, rfl, by show 2 ≤ sizeLine; decide, fun k1 hk1 => ?_⟩
      have e2 := Evl.Ex.new (o := .tup [.ref x, .ref y]) hk1
      have e12 := e1.trans e2
      have hka : KeyAt K (upd H1 k1 (.tup [.ref x, .ref y])) k1 (t.1, t.2.1) := ⟨x, y, SqT.of upd_same, Evl.ex_t e12 h2, Evl.ex_t e12 h3⟩
      refine ⟨_, rfl, p, C, dx, _, _, rfl, e12 _ _ hins, TP.cl, TP.n_least_of, pf_least, D, es, k1, _, rfl, rfl, hnd.ex e12, hka, _, rfl, ?_⟩
      cases hlk : look (kn es) (t.1, t.2.1) with
      | none =>
        refine iteT ?_
        have : mc (kn es) t = true := decide_eq_true (.inl hlk)
        rw [this] at hQ1
        exact hQ1 _ e2
      | some v =>
        refine iteF ?_
        refine ⟨_, rfl, _, rfl, p, C, dx, _, _, rfl, e12 _ _ hins, TP.cl, TP.n_least_of, pf_least, _, rfl, _, rfl, by show 2 ≤ sizeLine; decide, fun k2 hk2 => ?_⟩
        have e3 := Evl.Ex.new (o := .tup [.ref x, .ref y]) hk2
        have e13 := e12.trans e3
        have hkb : KeyAt K (upd (upd H1 k1 (.tup [.ref x, .ref y])) k2 (.tup [.ref x, .ref y])) k2 (t.1, t.2.1) := ⟨x, y, SqT.of upd_same, Evl.ex_t e13 h2, Evl.ex_t e13 h3⟩
        refine ⟨D, es, k2, _, v, rfl, rfl, hnd.ex e13, hkb, hlk, _, _, rfl, rfl, _, rfl, ?_⟩
        have : mc (kn es) t = decide (t.2.2 < v) := by
          unfold mc
          rw [hlk]
          exact decide_eq_decide.mpr ⟨fun z => by rcases z with z | z; cases z; exact z, fun z => .inr z⟩
        rw [this] at hQ1
        exact hQ1 _ (e2.trans e3)
    · have hc : look (kn es) (t.1, t.2.1) = none ∨ t.2.2 < (look (kn es) (t.1, t.2.1)).getD 0 := of_decide_eq_true hb
      have eL : metL Ls (kn es) t = Ls ++ [t] := if_pos hc
      have eM : metM (kn es) t = putM (kn es) (t.1, t.2.1) t.2.2 := if_pos hc
      have eA : metA As (kn es) t k m = As ++ [some (k, m)] := if_pos hb
      rw [eL, eM, eA] at q
      refine ⟨_, rfl, _, rfl, p, C, dx, _, _, rfl, e1 _ _ hins, TP.cl, TP.n_least_of, pf_least, _, rfl, _, rfl, by show 2 ≤ sizeLine; decide, fun k1 hk1 => ?_⟩
      have e2 := Evl.Ex.new (o := .tup [.ref x, .ref y]) hk1
      have e12 := e1.trans e2
      have hka : KeyAt K (upd H1 k1 (.tup [.ref x, .ref y])) k1 (t.1, t.2.1) := ⟨x, y, SqT.of upd_same, Evl.ex_t e12 h2, Evl.ex_t e12 h3⟩
      have hnd2 := hnd.ex e12
      have hins2 := e12 _ _ hins
      have hL2 := e12 _ _ hL
      have hA2 := e12 _ _ hA
      have hl2 := hlall.tr e12
      have ha2 : AllR (AhAt K (upd H1 k1 (.tup [.ref x, .ref y]))) as As := haall.mono fun _ _ z => z.tu (Tu.ex e12)
      have hT2 := hT.ex e12
      have hM2 := hM.ex e12
      have b2 : But [L, A, D] H (upd H1 k1 (.tup [.ref x, .ref y])) := But.ex e12
      have t2 : Tu K H (upd H1 k1 (.tup [.ref x, .ref y])) := Tu.ex e12
      generalize upd H1 k1 (.tup [.ref x, .ref y]) = H2 at *
      refine ⟨D, es, k1, (t.1, t.2.1), t.2.2, rfl, rfl, rfl, hnd2, hka, by rw [sizeLine_eq]; omega, ?_⟩
      have hnd3 := hnd2.stored (v := t.2.2) hka
      have t3 : Tu K H2 (upd H2 D (.ext (NDφ P w D (putE es (t.1, t.2.1) k1 t.2.2)))) := Tu.ext hnd2.1
      have b3 : But [L, A, D] H2 (upd H2 D (.ext (NDφ P w D (putE es (t.1, t.2.1) k1 t.2.2)))) := upd_but (by simp)
      have hins3 : upd H2 D (.ext (NDφ P w D (putE es (t.1, t.2.1) k1 t.2.2))) p = _ := (upd_ne npD).trans hins2
      have hL3 : upd H2 D (.ext (NDφ P w D (putE es (t.1, t.2.1) k1 t.2.2))) L = _ := (upd_ne nLD).trans hL2
      have hA3 : upd H2 D (.ext (NDφ P w D (putE es (t.1, t.2.1) k1 t.2.2))) A = _ := (upd_ne nAD).trans hA2
      generalize upd H2 D (.ext (NDφ P w D (putE es (t.1, t.2.1) k1 t.2.2))) = H3 at *
      refine ⟨_, rfl, p, C, dx, _, _, rfl, hins3, TP.cl, TP.n_line, pf_line, .inl ⟨rfl, _, SqL.of hL3⟩, _, rfl, L, ls, _, rfl, rfl, hL3, by rw [hlall.len, sizeLine_eq]; omega, ?_⟩
      have t4 : Tu K H3 (upd H3 L (.lst (ls ++ [.ref ta]))) := Tu.lst hL3
      have b4 : But [L, A, D] H3 (upd H3 L (.lst (ls ++ [.ref ta]))) := upd_but (by simp)
      have hins4 : upd H3 L (.lst (ls ++ [.ref ta])) p = _ := (upd_ne npL).trans hins3
      have hL4 : upd H3 L (.lst (ls ++ [.ref ta])) L = _ := upd_same
      have hA4 : upd H3 L (.lst (ls ++ [.ref ta])) A = _ := (upd_ne hps.ne.symm).trans hA3
      have hD4 : upd H3 L (.lst (ls ++ [.ref ta])) D = _ := (upd_ne nLD.symm).trans hnd3.1
      generalize upd H3 L (.lst (ls ++ [.ref ta])) = H4 at *
      refine ⟨_, rfl, p, C, dx, _, _, rfl, hins4, TP.cl, TP.n_ahead_of, pf_ahead, .inl ⟨rfl, _, SqL.of hA4⟩, _, rfl, _, rfl, by show 2 ≤ sizeLine; decide, fun k5 hk5 => ?_⟩
      have e5 := Evl.Ex.new (o := .tup [.int (k : Int), mv]) hk5
      have hA5 := e5 _ _ hA4
      refine ⟨A, as, _, rfl, rfl, hA5, by rw [haall.len, sizeLine_eq]; omega, ?_⟩
      have t6 : Tu K (upd H4 k5 (.tup [.int (k : Int), mv])) (upd (upd H4 k5 (.tup [.int (k : Int), mv])) A (.lst (as ++ [.ref k5]))) := Tu.lst hA5
      have b6 : But [L, A, D] (upd H4 k5 (.tup [.int (k : Int), mv])) (upd (upd H4 k5 (.tup [.int (k : Int), mv])) A (.lst (as ++ [.ref k5]))) := upd_but (by simp)
      have t26 := t3.trans (t4.trans ((Tu.ex e5).trans t6))
      have t36 := t4.trans ((Tu.ex e5).trans t6)
      refine q _ (putE es (t.1, t.2.1) k1 t.2.2) (b2.trans (b3.trans (b4.trans ((But.ex e5).trans b6)))) (t2.trans t26) (kn_put _ _ _ _) ⟨⟨dx, (upd_ne npA).trans (e5 _ _ hins4)⟩, ⟨_, (upd_ne hps.ne).trans (e5 _ _ hL4), ?_⟩, ⟨_, upd_same, ?_⟩, ⟨(upd_ne nAD.symm).trans (e5 _ _ hD4), fun e he => (hnd3.2 e he).tu t36⟩, hps.ne⟩
      · exact AllR.app (hl2.mono fun _ _ z => z.tu t26) (.cons (hT2.tu t26) .nil)
      · exact AllR.app (ha2.mono fun _ _ z => z.tu t26) (.cons ⟨k5, mv, rfl, t6 _ _ (SqT.of upd_same), hM2.tu t26⟩ .nil)
    · have hc : ¬ (look (kn es) (t.1, t.2.1) = none ∨ t.2.2 < (look (kn es) (t.1, t.2.1)).getD 0) := of_decide_eq_false hb
      have eL : metL Ls (kn es) t = Ls := if_neg hc
      have eM : metM (kn es) t = kn es := if_neg hc
      have eA : metA As (kn es) t k m = As := if_neg (by rw [hb]; simp)
      rw [eL, eM, eA] at q
      exact q H1 es (But.ex e1) (Tu.ex e1) rfl (hps.ex e1)
end
end K58
set_option Elab.async false
set_option linter.all false
set_option maxRecDepth 100000
set_option maxHeartbeats 4000000
set_option autoImplicit false
namespace K58
open PySem PySem.Spec PyProof.Rows L2
open Evl (Ex)
section
variable {P : Program} {w : World} {K : PySem.W.Frag} {mg : Str → Option Value} {base : Heap} {C : Addr}
def AhOk (As : List Ah) : Prop := ∀ (i j : Nat) (m : Mv), As[i]? = some (some (j, m)) → j < i
theorem AhOk.met {As : List Ah} {M : Kn} {t : Tr} {k : Nat} {m : Mv} (h : AhOk As) (hk : k < As.length) : AhOk (metA As M t k m) := by
  unfold metA
  split
  · intro i j m' hi
    by_cases c : i < As.length
    · rw [List.getElem?_append_left c] at hi
      exact h i j m' hi
    · rw [List.getElem?_append_right (by omega)] at hi
      by_cases d : i - As.length = 0
      · rw [d] at hi
        simp at hi
        omega
      · have : ([some (k, m)] : List Ah)[i - As.length]? = none := List.getElem?_eq_none (by simp; omega)
        rw [this] at hi; cases hi
  · exact h
theorem met_len {Ls : List Tr} {As : List Ah} {M : Kn} {t : Tr} {k : Nat} {m : Mv} (h : As.length = Ls.length) : (metA As M t k m).length = (metL Ls M t).length := by
  unfold metA metL mc
  by_cases c : look M (t.1, t.2.1) = none ∨ t.2.2 < (look M (t.1, t.2.1)).getD 0
  · rw [if_pos (decide_eq_true c), if_pos c, List.length_append, List.length_append, h]; rfl
  · rw [if_neg (by rw [decide_eq_false c]; simp), if_neg c]; exact h
theorem metL_old {Ls : List Tr} {M : Kn} {t u : Tr} {i : Nat} (hi : i < Ls.length) (h : (metL Ls M t)[i]? = some u) : Ls[i]? = some u := by
  unfold metL at h
  split at h
  · rw [List.getElem?_append_left hi] at h; exact h
  · exact h
theorem metL_len {Ls : List Tr} {M : Kn} {t : Tr} : Ls.length ≤ (metL Ls M t).length := by
  unfold metL
  split
  · rw [List.length_append]; omega
  · exact Nat.le_refl _
/-- the search's state: all ahead of k are closed -/
structure WSt (P : Program) (w : World) (K : PySem.W.Frag) (C : Addr) (H : Hp) (p : Addr) (hv ov qv : V) (L A D : Addr) (hl : Hl) (R S : Rl) (k : Nat) (Ls : List Tr) (As : List Ah) (es : En) : Prop where
  ps : PsSt P w K C H p hv ov qv L A D Ls As es
  sr : Srch hl.n hl.r R S Ls (kn es)
  len : As.length = Ls.length
  ord : AhOk As
  done : ∀ i t, i < k → Ls[i]? = some t → Cl hl.r R S (kn es) t (moves hl.n)
theorem WSt.ex {H H' : Hp} {p : Addr} {hv ov qv : V} {L A D : Addr} {hl : Hl} {R S : Rl} {k : Nat} {Ls : List Tr} {As : List Ah} {es : En} (e : Ex H H') (h : WSt P w K C H p hv ov qv L A D hl R S k Ls As es) : WSt P w K C H' p hv ov qv L A D hl R S k Ls As es :=
  ⟨h.ps.ex e, h.sr, h.len, h.ord, h.done⟩
def sp_Pairs_worse_run (P : Program) (w : World) (K : PySem.W.Frag) (C : Addr) : Sp := Pm 1 fun vs H Q => ∃ (p : Addr) (hv ov qv : V) (L A D ka : Addr) (hl : Hl) (R S : Rl), vs = [.ref p] ∧ PsSt P w K C H p hv ov qv L A D [tvoid hl.n] [none] [((void hl.n, void hl.n), ka, 0)] ∧
  HlOk hl ∧ HallAt K H hv hl ∧ RuleAt K H ov R ∧ RuleAt K H qv S ∧ RlOk hl.n hl.r R ∧ RlOk hl.n hl.r S ∧
  (∀ a xs t H', But [L, A, D] H H' → Reach hl.n hl.r R S t → Worse t → SqT K H' a xs → Q (.ref a) H') ∧
  (∀ Ls As es H', But [L, A, D] H H' → PsSt P w K C H' p hv ov qv L A D Ls As es → Srch hl.n hl.r R S Ls (kn es) → (∀ t ∈ Ls, Cl hl.r R S (kn es) t (moves hl.n)) → Q .non H')
/-! ### Pairs.worse_run -/
abbrev N_sc_Pairs_worse_run : List Str := ["self", "at", "move", "triple"]
theorem sc_Pairs_worse_run : FnScope N_sc_Pairs_worse_run ["self"] (defScope s_Pairs_worse_run) := ⟨rfl, rfl, rfl, by decide +kernel, rfl, by decide +kernel, by decide +kernel⟩
theorem mt_worse_run {f : Addr} {fd : FuncData} (T : Tx K mg) (TP : Tp K mg C) (MT : Meth K C "worse_run" f) (F : FnP K "worse_run" "Pairs.worse_run" s_Pairs_worse_run f fd) (C_all_moves : Clb P w K mg base "all_moves" 2 ["hall"] (sp_all_moves P w K)) (C_both_moved : Clb P w K mg base "both_moved" 9 ["hall", "one", "other", "triple", "move"] (sp_both_moved P w K)) (C_is_worse : Clb P w K mg base "is_worse" 1 ["triple"] (sp_is_worse P w K)) (M_run_to : Mtb P w K mg base C "run_to" 1 ["self", "at"] (sp_Pairs_run_to P w K C)) (M_met : Mtb P w K mg base C "met" 1 ["self", "at", "move", "triple"] (sp_Pairs_met P w K C)) :
    Mtb P w K mg base C "worse_run" 10 ["self"] (sp_Pairs_worse_run P w K C) := by
    refine ⟨f, fd, MT, F.bindsN fun _ _ _ _ _ _ us hl => match us, hl with | [_], _ => rfl, F.ok sc_Pairs_worse_run (fun _ _ _ _ h => by exact pm_len h) (fun cdv A outer s H vs Q E hr h => ?_)⟩
    obtain ⟨_, p, hv, ov, qv, L, A, D, ka, hl, R, S, rfl, hps0, ok, hH, hR, hS, rok, sok, qa, qb⟩ := h
    have n0 := ok.n0
    refine ⟨_, PSs.nox (pss_cons (ps_set (i := 1) sc_Pairs_worse_run.nd rfl (Or.inl rfl) pe_int)
      (pss_cons (ps_while PassesOwn.never (pt_cmpR op_lt (pv 1) (pe_callB (lenQ K) (by rfl) T.m_len PySem.boot_len (pa_cons (pe_fld (pv 0) rfl) pa_nil)) (nomark _))
      (pss_cons (ps_for PassesOwn.never rfl (pi_list (pe_c C_all_moves hr (by rfl) (pa_cons (pe_fld (pv 0) rfl) pa_nil))) (pg_name (i := 2) sc_Pairs_worse_run.nd rfl (Or.inl rfl))
      (pss_cons (ps_set (i := 3) sc_Pairs_worse_run.nd rfl (Or.inl rfl) (pe_c C_both_moved hr (by rfl) (pa_cons (pe_fld (pv 0) rfl) (pa_cons (pe_fld (pv 0) rfl) (pa_cons (pe_fld (pv 0) rfl) (pa_cons (pe_ix (ixL K) (pe_fld (pv 0) rfl) (pv 1) (fun _ _ => rfl)) (pa_cons (pv 2) pa_nil)))))))
      (pss_cons (ps_if (pt_val (pe_c C_is_worse hr (by rfl) (pa_cons (pv 3) pa_nil)) (fun _ => rfl))
      (pss_one (ps_ret (pe_op (catT K) (pe_m M_run_to TP.cl hr (pv 0) (pa_cons (pv 1) pa_nil)) (pe_tup (pa_cons (pv 2) pa_nil)))))
      pss_nil)
      (pss_one (ps_expr (pe_m M_met TP.cl hr (pv 0) (pa_cons (pv 1) (pa_cons (pv 2) (pa_cons (pv 3) pa_nil)))))))))
      (pss_one (ps_set (i := 1) sc_Pairs_worse_run.nd rfl (Or.inl rfl) (pe_op op_add (pv 1) pe_int)))))
      (pss_one (ps_ret pe_non)))), ?_⟩
    refine ⟨fun m σ H' => ∃ (k : Nat) (v2 v3 : Option V) (Ls : List Tr) (As : List Ah) (es : En), m = 600001 - k ∧ σ = [some (.ref p), some (.int (k : Nat)), v2, v3] ∧ But [L, A, D] H H' ∧ Tu K H H' ∧ WSt P w K C H' p hv ov qv L A D hl R S k Ls As es ∧ k ≤ Ls.length,
      ⟨_, 0, none, none, _, _, _, rfl, rfl, But.refl _ _, Tu.refl _, ⟨hps0, Srch.init, rfl, (fun i j m hi => by cases i with | zero => simp at hi | succ i => simp at hi), fun i t hi => absurd hi (Nat.not_lt_zero _)⟩, Nat.zero_le _⟩, ?_⟩
    rintro m σ H1 ⟨k, v2, v3, Ls, As, es, rfl, rfl, b1, t1, ws, hkl⟩
    obtain ⟨dx, hins⟩ := ws.ps.ins
    obtain ⟨ls, hL, hlall⟩ := ws.ps.line
    refine ⟨_, rfl, _, rfl, p, C, dx, _, _, rfl, hins, TP.cl, TP.n_line, pf_line, L, ls, rfl, .inl (SqL.of hL), _, _, rfl, rfl, _, rfl, ite2 (fun c => ?_) (fun c => ?_)⟩
    · have hk : k < Ls.length := by have := of_decide_eq_true c; rw [hlall.len] at this; omega
      have hll := ws.sr.lenL n0 rok sok ok.lins
      refine ⟨fun σ' H' => ∃ m', m' < 600001 - k ∧ ∃ (k : Nat) (v2 v3 : Option V) (Ls : List Tr) (As : List Ah) (es : En), m' = 600001 - k ∧ σ' = [some (.ref p), some (.int (k : Nat)), v2, v3] ∧ But [L, A, D] H H' ∧ Tu K H H' ∧ WSt P w K C H' p hv ov qv L A D hl R S k Ls As es ∧ k ≤ Ls.length, fun _ _ h => h, ?_⟩
      refine ⟨_, rfl, p, C, dx, _, _, rfl, hins, TP.cl, TP.n_hall, pf_hall, rfl, _, hl, rfl, ok, hH.tu t1, fun ml H2 hml e2 hms => ?_⟩
      obtain ⟨ms, hms, hmall⟩ := hms
      have nml : ml ∉ [L, A, D] := by
        obtain ⟨as, hA, _⟩ := ws.ps.ahead
        have a1 : ml ≠ L := fun z => by rw [z, hL] at hml; cases hml
        have a2 : ml ≠ A := fun z => by rw [z, hA] at hml; cases hml
        have a3 : ml ≠ D := fun z => by rw [z, ws.ps.nd.1] at hml; cases hml
        simp [a1, a2, a3]
      have t2 : Tu K H H2 := t1.trans (Tu.ex e2)
      have b2 : But [L, A, D] H H2 := b1.trans (But.ex e2)
      refine ⟨ml, rfl, ⟨ms, SqL.of hms⟩, for_list (K := K) (a := ml) (xs := ms) (fun j σ H' => ∃ (v2 v3 : Option V) (Ls : List Tr) (As : List Ah) (es : En), σ = [some (.ref p), some (.int (k : Nat)), v2, v3] ∧ But [L, A, D] H2 H' ∧ Tu K H2 H' ∧ WSt P w K C H' p hv ov qv L A D hl R S k Ls As es ∧ k < Ls.length ∧ ∀ t, Ls[k]? = some t → Cl hl.r R S (kn es) t ((moves hl.n).take j))
        ⟨v2, v3, Ls, As, es, rfl, But.refl _ _, Tu.refl _, ws.ex e2, hk, fun t _ m hm => by cases hm⟩ (fun j σ H' _ h => by obtain ⟨_, _, _, _, _, _, b, _⟩ := h; exact SqL.of (b _ _ nml hms)) ?_ ?_⟩
      · rintro j mv σ H3 hj ⟨u2, u3, Ls, As, es, rfl, b3, t3, ws, hk, hcl⟩
        obtain ⟨m, hm, hM⟩ := hmall.get hj
        have hmm := List.mem_of_getElem? hm
        obtain ⟨dx, hins⟩ := ws.ps.ins
        obtain ⟨ls, hL, hlall⟩ := ws.ps.line
        have ht : Ls[k]? = some Ls[k] := List.getElem?_eq_getElem hk
        obtain ⟨tv, htv, hT⟩ := hlall.get2 ht
        have htm := List.getElem_mem hk
        have hre := ws.sr.reach _ htm
        have hks := hre.ks n0 rok sok
        have t03 := t2.trans t3
        refine ⟨_, rfl, p, C, dx, _, _, rfl, hins, TP.cl, TP.n_hall, pf_hall, _, rfl, p, C, dx, _, _, rfl, hins, TP.cl, TP.n_one, pf_one, _, rfl, p, C, dx, _, _, rfl, hins, TP.cl, TP.n_other, pf_other, _, rfl, p, C, dx, _, _, rfl, hins, TP.cl, TP.n_line, pf_line, _, rfl, _, _, _, _, rfl, rfl, SqL.of hL, at_of rfl htv, _, rfl,
          rfl, _, _, _, _, _, hl, R, S, Ls[k], m, rfl, ok, hH.tu t03, hR.tu t03, hS.tu t03, hT, hM.tu t3, rok, sok, hks.1.1, hks.2.1, hmm, fun tv' H4 e4 hT4 => ?_⟩
        have ws4 := ws.ex e4
        have hins4 := e4 _ _ hins
        have hM4 := (hM.tu t3).ex e4
        refine ⟨_, rfl, rfl, _, _, rfl, hT4, _, rfl, ite2 (fun c => ?_) (fun c => ?_)⟩
        · have hw := of_decide_eq_true c
          refine ⟨_, rfl, p, dx, _, rfl, hins4, pf_run_to, _, rfl, rfl, p, k, hv, ov, qv, L, A, D, Ls, As, es, rfl, ws4.ps, by rw [ws.len]; exact hk, ws.ord, by have := ws.sr.lenL n0 rok sok ok.lins; rw [ws.len]; omega, fun a xs H5 e5 hxs hxl => ?_⟩
          refine ⟨_, rfl, by show 1 ≤ sizeLine; decide, fun b hb => ?_⟩
          have e6 := Evl.Ex.new (o := .tup [mv]) hb
          have bb : But [L, A, D] H (upd H5 b (.tup [mv])) := (b2.trans b3).trans (But.ex ((e4.trans e5).trans e6))
          refine ⟨a, b, xs, [mv], rfl, rfl, Evl.ex_t e6 hxs, SqT.of upd_same, by rw [sizeLine_eq]; simp; omega, fun _ => ?_, fun _ z => (nomatch z), fun _ _ d hd => ?_⟩
          · exact qa b _ _ _ bb (.move hre hmm) hw (SqT.of upd_same)
          · exact qa d _ _ _ (bb.trans (But.ex (Evl.Ex.new hd))) (.move hre hmm) hw (SqT.of upd_same)
        · have hw : ¬ Worse (both hl.r R S Ls[k] m) := fun z => c (decide_eq_true z)
          have hll := ws.sr.lenL n0 rok sok ok.lins
          have hmM := ws.sr.lenM n0 rok sok ok.lins
          have hel : es.length ≤ 729 := by unfold kn at hmM; rw [List.length_map] at hmM; exact hmM
          refine ⟨_, rfl, p, dx, _, rfl, hins4, pf_met, _, rfl, _, rfl, _, rfl, rfl, p, k, hv, ov, qv, mv, tv', L, A, D, Ls, As, es, m, both hl.r R S Ls[k] m, rfl, ws4.ps, hT4, hM4, by omega, by rw [ws.len]; omega, by omega, fun H5 es5 b5 t5 hkn hps5 => ?_⟩
          obtain ⟨g1, g2, g3⟩ := met_ok ws.sr htm hmm hw
          rw [← hkn] at g1 g2 g3
          refine ⟨_, _, _, _, _, rfl, b3.trans ((But.ex e4).trans b5), t3.trans ((Tu.ex e4).trans t5), ⟨hps5, g1, met_len ws.len, ws.ord.met (by rw [ws.len]; exact hk), fun i t hi ht' => (ws.done i t hi (metL_old (by omega) ht')).lower g2⟩, Nat.lt_of_lt_of_le hk metL_len, fun t ht' => ?_⟩
          have ht2 := metL_old hk ht'
          rw [ht] at ht2
          cases ht2
          rw [take_snoc hm]
          intro m' hm'
          rcases List.mem_append.mp hm' with hm' | hm'
          · exact ((hcl _ ht).lower g2) m' hm'
          · exact g3 m' hm'
      · rintro σ H3 ⟨u2, u3, Ls, As, es, rfl, b3, t3, ws, hk, hcl⟩
        have hll := ws.sr.lenL n0 rok sok ok.lins
        rw [hmall.len, List.take_of_length_le (Nat.le_refl _)] at hcl
        refine ⟨_, rfl, _, _, rfl, rfl, 600001 - (k + 1), by omega, k + 1, _, _, Ls, As, es, rfl, rfl, b2.trans b3, t2.trans t3, ⟨ws.ps, ws.sr, ws.len, ws.ord, fun i t hi ht => ?_⟩, hk⟩
        by_cases c : i < k
        · exact ws.done i t c ht
        · obtain rfl : i = k := by omega
          exact hcl t ht
    · have hk : Ls.length ≤ k := by
        have : ¬ ((k : Int) < (ls.length : Nat)) := fun z => c (decide_eq_true z)
        rw [hlall.len] at this
        omega
      refine qb Ls As es H1 b1 ws.ps ws.sr fun t ht => ?_
      obtain ⟨i, hi, rfl⟩ := List.mem_iff_getElem.mp ht
      exact ws.done i _ (by omega) (List.getElem?_eq_getElem hi)
end
end K58
set_option Elab.async false
set_option linter.all false
set_option maxRecDepth 100000
set_option maxHeartbeats 4000000
set_option autoImplicit false
namespace K58
open PySem PySem.Spec PyProof.Rows L2
open Evl (Ex)
section
variable {P : Program} {w : World} {K : PySem.W.Frag} {mg : Str → Option Value} {base : Heap}
def sp_never_worse (P : Program) (w : World) (K : PySem.W.Frag) : Sp := Pm 3 fun vs H Q => ∃ (hv ov qv : V) (hl : Hl) (R S : Rl), vs = [hv, ov, qv] ∧ HlOk hl ∧ HallAt K H hv hl ∧ RuleAt K H ov R ∧ RuleAt K H qv S ∧ RlOk hl.n hl.r R ∧ RlOk hl.n hl.r S ∧
  (∀ a b t H', Ex H H' → Reach hl.n hl.r R S t → Worse t → SqT K H' a [.str "worse", b] → Q (.ref a) H') ∧
  (∀ a b ps H', Ex H H' → SqT K H' a [.str "never", b] → PapAt K H' b ps → PaperOk hl.n hl.r R S ps → ps.length ≤ 100000 → Q (.ref a) H')
/-! ### never_worse -/
abbrev N_sc_never_worse : List Str := ["hall", "one", "other", "pairs", "run", "least_of", "x", "y"]
theorem sc_never_worse : FnScope N_sc_never_worse ["hall", "one", "other"] (defScope s_never_worse) := ⟨rfl, rfl, rfl, by decide +kernel, rfl, by decide +kernel, by decide +kernel⟩
theorem cl_never_worse {f : Addr} {fd : FuncData} (T : Tx K mg) (F : FnP K "never_worse" "never_worse" s_never_worse f fd) (m : mg "never_worse" = some (.ref f)) (C_ask_rules : Clb P w K mg base "ask_rules" 1 ["one", "other"] (sp_ask_rules P w K)) {C : Addr} (TP : Tp K mg C) (MK_Pairs : Mkb P w K mg base C 2 ["self", "hall", "one", "other"] (sp_Pairs_init P w K C)) (M_worse_run : Mtb P w K mg base C "worse_run" 10 ["self"] (sp_Pairs_worse_run P w K C)) :
    Clb P w K mg base "never_worse" 12 ["hall", "one", "other"] (sp_never_worse P w K) := by
    refine clb_of m F (F.bindsN fun _ _ _ _ _ _ us hl => match us, hl with | [_, _, _], _ => rfl) (F.ok sc_never_worse (fun _ _ _ _ h => by exact pm_len h) (fun cdv A outer s H vs Q E hr h => ?_))
    obtain ⟨_, hv, ov, qv, hl, R, S, rfl, ok, hH, hR, hS, rok, sok, qa, qb⟩ := h
    have n0 := ok.n0
    refine ⟨_, PSs.nox (pss_cons (ps_expr (pe_c C_ask_rules hr (by rfl) (pa_cons (pv 1) (pa_cons (pv 2) pa_nil))))
      (pss_cons (ps_set (i := 3) sc_never_worse.nd rfl (Or.inl rfl) (pe_mk MK_Pairs hr (by rfl) TP.mgC (pa_cons (pv 0) (pa_cons (pv 1) (pa_cons (pv 2) pa_nil)))))
      (pss_cons (ps_set (i := 4) sc_never_worse.nd rfl (Or.inl rfl) (pe_m0 M_worse_run TP.cl hr (pv 3)))
      (pss_cons (ps_if (pt_cmpR op_notN (pv 4) pe_non (nomark _))
      (pss_one (ps_ret (pe_tup (pa_cons pe_str (pa_cons (pv 4) pa_nil)))))
      pss_nil)
      (pss_cons (ps_set (i := 5) sc_never_worse.nd rfl (Or.inr rfl) (pe_fld (pv 3) rfl))
      (pss_one (ps_ret (pe_tup (pa_cons pe_str (pa_cons (pe_callTy call_tuple_of (by rfl) T.m_tuple (by decide +kernel) (pa_cons (pe_lc (own := [("x", 6), ("y", 7)]) rfl sc_never_worse.nd (pi_list (pe_callB (sortQ P w K rfl (u10 hr)) (by rfl) T.m_sorted (by decide +kernel) (pa_cons (pv 5) pa_nil))) (blkOk_by (own := [("x", 6), ("y", 7)]) (N := N_sc_never_worse) (sc := defScope s_never_worse) (by decide +kernel)) (fun _ _ _ _ _ => pg_tupQ (n := 2) K rfl (pgs_cons (pg_name (i := 6) sc_never_worse.nd rfl (Or.inl rfl)) (pgs_cons (pg_name (i := 7) sc_never_worse.nd rfl (Or.inl rfl)) pgs_nil))) (fun _ _ _ _ _ => pts_nil) (fun _ _ _ _ _ => (pe_tup (pa_cons (pv 6) (pa_cons (pv 7) (pa_cons (pe_subQ P w K (u10 hr) (pv 5) (pe_tup (pa_cons (pv 6) (pa_cons (pv 7) pa_nil))) (fun _ _ => rfl)) pa_nil)))))) pa_nil)) pa_nil)))))))))), ?_⟩
    refine ⟨_, rfl, _, rfl, rfl, _, _, R, S, rfl, hR, hS, ?_⟩
    refine ⟨_, rfl, _, rfl, _, rfl, fun p dx hp hdx hne => ?_⟩
    have ex0 : Ex H (upd (upd H dx (.own p)) p (.ins C dx [])) := fun a o h => by
      rw [upd_ne (ne_of_none h hp), upd_ne (ne_of_none h hdx)]
      exact h
    refine ⟨rfl, p, dx, _, _, _, hl, rfl, upd_same, ok, hH.ex ex0, fun H1 L A D ka b1 hps hL hA hD => ⟨rfl, ?_⟩⟩
    have ex1 : Ex H H1 := fun a o h => b1 a o (fun z => by rw [List.mem_singleton.mp z, hp] at h; cases h) (ex0 a o h)
    have hL0 := Evl.fresh_back ex0 hL
    have hA0 := Evl.fresh_back ex0 hA
    have hD0 := Evl.fresh_back ex0 hD
    have exB : ∀ H', But [L, A, D] H1 H' → Ex H H' := fun H' b a o h => b a o (fun z => by
      rcases List.mem_cons.mp z with z | z
      · rw [z, hL0] at h; cases h
      · rcases List.mem_cons.mp z with z | z
        · rw [z, hA0] at h; cases h
        · rw [List.mem_singleton.mp z, hD0] at h; cases h) (ex1 a o h)
    obtain ⟨dx1, hins⟩ := hps.ins
    refine ⟨_, rfl, p, dx1, _, rfl, hins, pf_worse_run, rfl, p, _, _, _, L, A, D, ka, hl, R, S, rfl, hps, ok, hH.ex ex1, hR.ex ex1, hS.ex ex1, rok, sok, fun a xs t H2 b2 hre hw hxs => ?_, fun Ls As es H2 b2 hps2 hsr hcl => ?_⟩
    · refine ⟨_, rfl, rfl, _, rfl, ?_⟩
      refine iteT ?_
      refine ⟨_, rfl, by show 2 ≤ sizeLine; decide, fun d hd => ?_⟩
      exact qa d _ t _ ((exB H2 b2).trans (Evl.Ex.new hd)) hre hw (SqT.of upd_same)
    · refine ⟨_, rfl, rfl, _, rfl, ?_⟩
      refine iteF ?_
      obtain ⟨dx2, hins2⟩ := hps2.ins
      have hnd := hps2.nd
      have e2 := exB H2 b2
      have hlm := hsr.lenM n0 rok sok ok.lins
      have hel : es.length ≤ 729 := by unfold kn at hlm; rw [List.length_map] at hlm; exact hlm
      refine ⟨_, rfl, p, C, dx2, _, _, rfl, hins2, TP.cl, TP.n_least_of, pf_least, ?_⟩
      refine ⟨_, rfl, D, es, rfl, hnd, fun sp es' hperm hsp => ?_⟩
      have hel' : es'.length ≤ 729 := by rw [hperm.length_eq]; exact hel
      have e3 := Evl.Ex.new (o := .lst (es'.map fun e => V.ref e.2.1)) hsp
      have hls : (upd H2 sp (.lst (es'.map fun e => V.ref e.2.1))) sp = some (.lst (es'.map fun e => V.ref e.2.1)) := upd_same
      have e23 := e2.trans e3
      have hnd3 := hnd.ex e3
      generalize upd H2 sp (.lst (es'.map fun e => V.ref e.2.1)) = H3 at *
      refine ⟨sp, rfl, ⟨_, SqL.of hls⟩, fun Dl hDl => lc_list (K := K) (a := sp) (xs := es'.map fun e => V.ref e.2.1) (fun i H' => Ex H3 H' ∧ ∃ us, H' Dl = some (.lst us) ∧ AllR (TrAt K H') us ((es'.take i).map fun e => (e.1.1, e.1.2, e.2.2))) ⟨Evl.Ex.new hDl, [], upd_same, .nil⟩ (fun i H' _ h => SqL.of (h.1 _ _ hls)) ?_ ?_⟩
      · rintro i v H4 hi ⟨e4, us, hus, hal⟩
        rw [List.getElem?_map] at hi
        obtain ⟨e, he, rfl⟩ := Option.map_eq_some_iff.mp hi
        have hem : e ∈ es := hperm.mem_iff.mp (List.mem_of_getElem? he)
        obtain ⟨b, c, h1, h2, h3⟩ := (hnd3.2 e hem).ex e4
        have hlk : look (kn es) e.1 = some e.2.2 := look_of hsr.ndM (List.mem_map.mpr ⟨e, hem, rfl⟩)
        refine ⟨e.2.1, _, rfl, h1, rfl, _, _, rfl, _, _, rfl, rfl, rfl, ?_⟩
        dsimp only [tYes]
        refine iteT ⟨_, rfl, _, rfl, _, rfl, _, rfl, _, rfl, by show 2 ≤ sizeLine; decide, fun k1 hk1 => ?_⟩
        have e5 := Evl.Ex.new (o := .tup [.ref b, .ref c]) hk1
        have hka : KeyAt K (upd H4 k1 (.tup [.ref b, .ref c])) k1 e.1 := ⟨b, c, SqT.of upd_same, Evl.ex_t e5 h2, Evl.ex_t e5 h3⟩
        refine ⟨D, es, k1, e.1, e.2.2, rfl, rfl, hnd3.ex (e4.trans e5), hka, hlk, by show 3 ≤ sizeLine; decide, fun q1 hq1 => ?_⟩
        have e6 := Evl.Ex.new (o := .tup [.ref b, .ref c, .int e.2.2]) hq1
        have e56 := e5.trans e6
        have hus6 := e56 _ _ hus
        refine ⟨us, hus6, ?_, Evl.Ex.mut (e4.trans e56) hDl, us ++ [.ref q1], upd_same, ?_⟩
        · rw [hal.len, List.length_map, List.length_take, sizeLine_eq]; omega
        · rw [take_snoc he, List.map_append]
          have tl : Tu K _ (upd (upd (upd H4 k1 (.tup [.ref b, .ref c])) q1 (.tup [.ref b, .ref c, .int e.2.2])) Dl (.lst (us ++ [.ref q1]))) := Tu.lst hus6
          exact AllR.app ((hal.tr e56).mono fun _ _ z => z.tu tl) (.cons (TrAt.tu tl ⟨q1, b, c, rfl, SqT.of upd_same, Evl.ex_t e56 h2, Evl.ex_t e56 h3⟩) .nil)
      · rintro H4 ⟨e4, us, hus, hal⟩
        rw [List.length_map, List.take_of_length_le (Nat.le_refl _)] at hal
        refine ⟨Dl, us, rfl, .inl ⟨SqL.of hus, fun tp htp => ?_⟩⟩
        have e5 := Evl.Ex.new (o := .tup us) htp
        refine ⟨by show 2 ≤ sizeLine; decide, fun d hd => ?_⟩
        have e6 := Evl.Ex.new (o := .tup [.str "never", .ref tp]) hd
        have e46 := (e4.trans e5).trans e6
        refine qb d _ (es'.map fun e => (e.1.1, e.1.2, e.2.2)) _ (e23.trans e46) (SqT.of upd_same) ⟨tp, us, rfl, Evl.ex_t e6 (SqT.of upd_same), hal.tr (e5.trans e6)⟩ (hsr.paper n0 rok sok hcl ?_) (by rw [List.length_map]; omega)
        have := hperm.map fun e : Ky × Addr × Int => ((e.1.1, e.1.2, e.2.2) : Tr)
        unfold kn
        rw [List.map_map]
        exact this
end
end K58
set_option Elab.async false
set_option linter.all false
set_option maxRecDepth 100000
set_option maxHeartbeats 4000000
set_option autoImplicit false
namespace K58
open PySem PySem.Spec PyProof.Rows L2
open Evl (Ex)
section
variable {P : Program} {w : World} {K : PySem.W.Frag} {mg : Str → Option Value} {base : Heap}
/-! the tape -/
def tk (S : Addr) (turn left : Int) : List (L2.Key × V) := [(Sum.inr "script", .ref S), (Sum.inr "turn", .int turn), (Sum.inr "left", .int left)]
def TapeAt (H : Hp) (d S : Addr) : Prop := ∃ (ns : List Int) (turn left : Int), H d = some (.dK (tk S turn left)) ∧ H S = some (.lst (ns.map V.int)) ∧ ns.length ≤ 63
theorem tk_script {S : Addr} {turn left : Int} : valV (tk S turn left) (Sum.inr "script") = some (.ref S) := by rfl
theorem tk_turn {S : Addr} {turn left : Int} : valV (tk S turn left) (Sum.inr "turn") = some (.int turn) := by rfl
theorem tk_left {S : Addr} {turn left : Int} : valV (tk S turn left) (Sum.inr "left") = some (.int left) := by rfl
theorem tk_put_turn {S : Addr} {turn left z : Int} : putK (tk S turn left) (Sum.inr "turn") (.int z) = tk S z left := by rfl
theorem tk_put_left {S : Addr} {turn left z : Int} : putK (tk S turn left) (Sum.inr "left") (.int z) = tk S turn z := by rfl
theorem get_script {H : Hp} {d S : Addr} {turn left : Int} (h : H d = some (.dK (tk S turn left))) : DGet H d (.str "script") (some (.ref S)) := by rw [← tk_script (S := S) (turn := turn) (left := left)]; exact DGet.k (k := Sum.inr "script") h
theorem get_turn {H : Hp} {d S : Addr} {turn left : Int} (h : H d = some (.dK (tk S turn left))) : DGet H d (.str "turn") (some (.int turn)) := by rw [← tk_turn (S := S) (turn := turn) (left := left)]; exact DGet.k (k := Sum.inr "turn") h
theorem get_left {H : Hp} {d S : Addr} {turn left : Int} (h : H d = some (.dK (tk S turn left))) : DGet H d (.str "left") (some (.int left)) := by rw [← tk_left (S := S) (turn := turn) (left := left)]; exact DGet.k (k := Sum.inr "left") h
theorem put_turn {H : Hp} {d S : Addr} {turn left z : Int} (h : H d = some (.dK (tk S turn left))) : DPut H d (.str "turn") (.int z) (upd H d (.dK (tk S z left))) := by rw [← tk_put_turn (turn := turn)]; exact DPut.k (k := Sum.inr "turn") h (by rw [sizeLine_eq]; show 3 < 16777216; decide)
theorem put_left {H : Hp} {d S : Addr} {turn left z : Int} (h : H d = some (.dK (tk S turn left))) : DPut H d (.str "left") (.int z) (upd H d (.dK (tk S turn z))) := by rw [← tk_put_left (left := left)]; exact DPut.k (k := Sum.inr "left") h (by rw [sizeLine_eq]; show 3 < 16777216; decide)
theorem TapeAt.ex {H H' : Hp} {d S : Addr} (e : Ex H H') (h : TapeAt H d S) : TapeAt H' d S := by
  obtain ⟨ns, turn, left, h1, h2, h3⟩ := h
  exact ⟨ns, turn, left, e _ _ h1, e _ _ h2, h3⟩
def sp__law_tape (P : Program) (w : World) (K : PySem.W.Frag) : Sp := Pm 1 fun vs H Q => ∃ (a : Addr) (ns : List Int), vs = [.ref a] ∧ SqL K H a (ns.map V.int) ∧ ns.length ≤ 63 ∧ ∀ d S H', H d = none → Ex H H' → TapeAt H' d S → Q (.ref d) H'
/-! ### _law_tape -/
abbrev N_sc__law_tape : List Str := ["_law_script"]
theorem sc__law_tape : FnScope N_sc__law_tape ["_law_script"] (defScope s__law_tape) := ⟨rfl, rfl, rfl, by decide +kernel, rfl, by decide +kernel, by decide +kernel⟩
theorem cl__law_tape {f : Addr} {fd : FuncData} (T : Tx K mg) (F : FnP K "_law_tape" "_law_tape" s__law_tape f fd) (m : mg "_law_tape" = some (.ref f))  :
    Clb P w K mg base "_law_tape" 1 ["_law_script"] (sp__law_tape P w K) := by
    refine clb_of m F (F.bindsN fun _ _ _ _ _ _ us hl => match us, hl with | [_], _ => rfl) (F.ok sc__law_tape (fun _ _ _ _ h => by exact pm_len h) (fun cdv A outer s H vs Q E hr h => ?_))
    obtain ⟨_, a, ns, rfl, hS, hlen, q⟩ := h
    refine ⟨_, PSs.nox (pss_one (ps_ret (pe_disp (pps_cons pe_str (pe_slice sl_list (pv 0) po_none (po_some pe_int)) (pps_cons pe_str pe_int (pps_cons pe_str pe_int pps_nil))) (by rfl) (by rfl) (fun z => by cases z) (by decide)))), ?_⟩
    intro d hd
    have e1 := Evl.Ex.new (o := .dK []) hd
    refine ⟨_, rfl, _, rfl, a, _, rfl, Evl.ex_l e1 hS, fun S hS2 => ?_⟩
    have e2 := Evl.Ex.new (o := .lst (cutV (ns.map V.int) none (some 63))) hS2
    have nSd : S ≠ d := fun z => by rw [z, upd_same] at hS2; cases hS2
    have hcut : cutV (ns.map V.int) none (some 63) = ns.map V.int := by
      unfold cutV
      rw [HT.sIx_none, show (some (63 : Int)) = some ((63 : Nat) : Int) from rfl, HT.sIx_nat, List.length_map, Nat.min_eq_right hlen, List.drop_zero, List.take_of_length_le (by rw [List.length_map]; omega)]
    refine ⟨e2 _ _ upd_same, [(Sum.inr "script", .ref S), (Sum.inr "turn", .int 0), (Sum.inr "left", .int 0)], rfl, (by show 3 ≤ 15; decide), ?_⟩
    refine q d S _ hd (Evl.Ex.mut (e1.trans e2) hd) ⟨ns, 0, 0, upd_same, ?_, hlen⟩
    rw [upd_ne nSd, upd_same, hcut]
def sp__law_draw (P : Program) (w : World) (K : PySem.W.Frag) : Sp := Pm 2 fun vs H Q => ∃ (d S : Addr) (n : Nat), vs = [.ref d, .int n] ∧ TapeAt H d S ∧ 0 < n ∧ n ≤ 10000 ∧ ∀ (r : Nat) H', r < n → But [d] H H' → TapeAt H' d S → Q (.int r) H'
theorem emod_nat {a : Int} {n : Nat} (h : 0 < n) : ∃ r : Nat, a % (n : Int) = (r : Int) ∧ r < n := by
  have h1 := Int.emod_nonneg a (show (n : Int) ≠ 0 by omega)
  have h2 := Int.emod_lt_of_pos a (show (0 : Int) < n by omega)
  exact ⟨(a % (n : Int)).toNat, by omega, by omega⟩
theorem dp_list {H : Hp} {S : Addr} {ns : List Int} (h : H S = some (.lst (ns.map V.int))) : Dp K H (.ref S) (.list (ns.map .int)) := by
  refine .lst (SqL.of h) ?_
  clear h
  induction ns with
  | nil => exact .nil
  | cons n ns ih => exact .cons (.int n) ih
theorem shaped_list (ns : List Int) : SeqAt.shaped (.list (ns.map .int)) = true := by
  unfold SeqAt.shaped
  have e : PyData.canLayAll0 (ns.map PyData.int) = true := by
    induction ns with
    | nil => simp [PyData.canLayAll0]
    | cons n ns ih => rw [List.map_cons, PyData.canLayAll0, ih]; simp [PyData.canLay0]
  simp [PyData.canLay0, e, PyData.depth, PySem.W.depth_ints]
theorem upd_tape {H : Hp} {d S : Addr} {ns : List Int} {turn left t2 l2 : Int} (h : H d = some (.dK (tk S turn left))) (hS : H S = some (.lst (ns.map V.int))) (hl : ns.length ≤ 63) : TapeAt (upd H d (.dK (tk S t2 l2))) d S ∧ upd H d (.dK (tk S t2 l2)) S = some (.lst (ns.map V.int)) := by
  have n : S ≠ d := ne_of hS h (fun z => nomatch z)
  have e : upd H d (.dK (tk S t2 l2)) S = some (.lst (ns.map V.int)) := by rw [upd_ne n]; exact hS
  exact ⟨⟨ns, t2, l2, upd_same, e, hl⟩, e⟩
/-! ### _law_draw -/
abbrev N_sc__law_draw : List Str := ["_law_tape_here", "_law_many", "_law_found", "_law_turn", "_law_cell", "_law_mixed"]
theorem sc__law_draw : FnScope N_sc__law_draw ["_law_tape_here", "_law_many"] (defScope s__law_draw) := ⟨rfl, rfl, rfl, by decide +kernel, rfl, by decide +kernel, by decide +kernel⟩
theorem cl__law_draw {f : Addr} {fd : FuncData} (T : Tx K mg) (F : FnP K "_law_draw" "_law_draw" s__law_draw f fd) (m : mg "_law_draw" = some (.ref f))  :
    Clb P w K mg base "_law_draw" 1 ["_law_tape_here", "_law_many"] (sp__law_draw P w K) := by
    refine clb_of m F (F.bindsN fun _ _ _ _ _ _ us hl => match us, hl with | [_, _], _ => rfl) (F.ok sc__law_draw (fun _ _ _ _ h => by exact pm_len h) (fun cdv A outer s H vs Q E hr h => ?_))
    obtain ⟨_, d, S, n, rfl, ⟨ns, turn, left, hd, hS, hlen⟩, hn0, hn9, q⟩ := h
    have hc : ∀ a : Int, CDiv a (n : Int) := fun a => ⟨by omega, by omega⟩
    refine ⟨_, PSs.nox (pss_cons (ps_if (pt_cmpR op_gt (pe_dget (hu_of hr) (pv 0) pe_str (fun _ _ => rfl)) pe_int (nomark _))
      (pss_cons (ps_set (i := 2) sc__law_draw.nd rfl (Or.inl rfl) (pe_op op_mod (pe_dget (hu_of hr) (pv 0) pe_str (fun _ _ => rfl)) (pv 1)))
      (pss_cons (ps_dput (hu_of hr) (pv 0) pe_str (pe_op op_fdiv (pe_dget (hu_of hr) (pv 0) pe_str (fun _ _ => rfl)) (pv 1)) rfl)
      (pss_one (ps_ret (pv 2)))))
      pss_nil)
      (pss_cons (ps_set (i := 3) sc__law_draw.nd rfl (Or.inl rfl) (pe_dget (hu_of hr) (pv 0) pe_str (fun _ _ => rfl)))
      (pss_cons (ps_dput (hu_of hr) (pv 0) pe_str (pe_op op_add (pv 3) pe_int) rfl)
      (pss_cons (ps_set (i := 4) sc__law_draw.nd rfl (Or.inl rfl) (pe_op op_mul pe_int (pv 3)))
      (Evl.pss_cut (ps_if (pt_cmpR (neD K hr.units) (pe_dget (hu_of hr) (pv 0) pe_str (fun _ _ => rfl)) (pe_lst pa_nil) (nomark _))
      (pss_one (ps_set (i := 4) sc__law_draw.nd rfl (Or.inl rfl) (pe_ix (ixL K) (pe_dget (hu_of hr) (pv 0) pe_str (fun _ _ => rfl)) (pe_op op_mod (pv 3) (pe_callB (lenQ K) (by rfl) T.m_len PySem.boot_len (pa_cons (pe_dget (hu_of hr) (pv 0) pe_str (fun _ _ => rfl)) pa_nil))) (fun _ _ => rfl))))
      pss_nil)
      (Evl.pss_cut (ps_if (PW.pt (pw_and (pt_cmpR op_ge (pv 4) (pe_op op_pow pe_int pe_int) (nomark _)) (pw_and1 (pt_cmpR op_lt (pv 3) (pe_callB (lenQ K) (by rfl) T.m_len PySem.boot_len (pa_cons (pe_dget (hu_of hr) (pv 0) pe_str (fun _ _ => rfl)) pa_nil)) (nomark _)))))
      (pss_cons (ps_dput (hu_of hr) (pv 0) pe_str (pe_op op_fdiv (pv 4) (pv 1)) rfl)
      (pss_one (ps_ret (pe_op op_mod (pv 4) (pv 1)))))
      pss_nil)
      (pss_cons (ps_set (i := 5) sc__law_draw.nd rfl (Or.inl rfl) (pe_op op_mod (pe_op op_mul (pe_op op_add (pe_op op_add (pe_op op_mod (pv 4) pe_int) (pe_op op_mul pe_int (pv 3))) pe_int) pe_int) pe_int))
      (pss_cons (ps_set (i := 5) sc__law_draw.nd rfl (Or.inl rfl) (pe_op op_mod (pe_op op_mul (pe_op op_add (pe_op op_add (pe_op op_fdiv (pv 5) pe_int) (pe_op op_mul pe_int (pv 3))) pe_int) pe_int) pe_int))
      (pss_one (ps_ret (pe_op op_mod (pe_op op_fdiv (pv 5) pe_int) (pv 1)))))))))))), ?_⟩
    refine ⟨_, rfl, d, _, rfl, get_left hd, _, _, rfl, rfl, _, rfl, ite2 (fun c => ?_) (fun c => ?_)⟩
    · obtain ⟨r, hr1, hr2⟩ := emod_nat (a := left) hn0
      refine ⟨_, rfl, d, _, rfl, get_left hd, _, rfl, _, _, rfl, rfl, (by show (0 : Int) < n; omega), ?_⟩
      refine ⟨_, rfl, d, _, rfl, get_left hd, _, rfl, _, _, rfl, rfl, hc _, _, rfl, d, _, rfl, put_left hd, _, rfl, ?_⟩
      show Q (.int (left % (n : Int))) _
      rw [hr1]
      exact q r _ hr2 (upd_but (List.mem_singleton.mpr rfl)) (upd_tape hd hS hlen).1
    · refine ⟨_, rfl, d, _, rfl, get_turn hd, ?_⟩
      refine ⟨_, rfl, _, _, rfl, rfl, _, rfl, d, _, rfl, put_turn hd, ?_⟩
      have b1 : But [d] H (upd H d (.dK (tk S (turn + 1) left))) := upd_but (List.mem_singleton.mpr rfl)
      have hd1 : (upd H d (.dK (tk S (turn + 1) left))) d = some (.dK (tk S (turn + 1) left)) := upd_same
      have hS1 := (upd_tape (t2 := turn + 1) (l2 := left) hd hS hlen).2
      generalize upd H d (.dK (tk S (turn + 1) left)) = H1 at *
      refine ⟨_, rfl, _, _, rfl, rfl, .inl ⟨by decide, by decide⟩, ?_⟩
      let Mid : L2.St → Hp → Prop := fun σ H2 => But [d] H H2 ∧ H2 d = some (.dK (tk S (turn + 1) left)) ∧ H2 S = some (.lst (ns.map V.int)) ∧ ∃ (cell : Int) (v2 v5 : Option V), σ = [some (.ref d), some (.int n), v2, some (.int turn), some (.int cell), v5]
      refine ⟨Mid, ?_, ?_⟩
      · refine ⟨_, rfl, d, _, rfl, get_script hd1, ?_⟩
        dsimp only [tLst, tNil]
        refine ⟨Nat.zero_le _, fun l hl => ?_⟩
        have e1 := Evl.Ex.new (o := .lst []) hl
        have hS1' := e1 _ _ hS1
        have hd1' := e1 _ _ hd1
        have fin : ∀ cell : Int, Mid [some (.ref d), some (.int n), none, some (.int turn), some (.int cell), none] (upd H1 l (.lst [])) := fun cell => ⟨b1.trans (But.ex e1), hd1', hS1', _, _, _, rfl⟩
        refine ⟨_, _, dp_list hS1', dp_list (ns := []) upd_same, shaped_list ns, shaped_list [], _, rfl, ite2 (fun c1 => ?_) (fun _ => fin _)⟩
        refine ⟨_, rfl, d, _, rfl, get_script hd1', _, rfl, _, rfl, d, _, rfl, get_script hd1', ?_⟩
        have hne : ns ≠ [] := by
          rintro rfl
          simp [PyData.eqv, PyData.eqvAll] at c1
        have hpos : 0 < ns.length := List.length_pos_iff.mpr hne
        obtain ⟨r, hr1, hr2⟩ := emod_nat (a := turn) hpos
        dsimp only [tNil]
        refine ⟨_, _, rfl, .inl (SqL.of hS1'), _, _, rfl, rfl, (by show (0 : Int) < ((ns.map V.int).length : Int); rw [List.length_map]; omega), ?_⟩
        refine ⟨_, _, _, .int (ns[r]'hr2), rfl, rfl, SqL.of hS1', ?_, fin _⟩
        rw [List.length_map, hr1]
        exact at_of rfl (by rw [List.getElem?_map, List.getElem?_eq_getElem hr2]; rfl)
      · rintro σ2 H2 ⟨b2, hd2, hS2, cell, v2, v5, rfl⟩
        refine ⟨Mid, ?_, ?_⟩
        · have fin : Mid [some (.ref d), some (.int n), v2, some (.int turn), some (.int cell), v5] H2 := ⟨b2, hd2, hS2, _, _, _, rfl⟩
          refine ⟨_, rfl, _, _, rfl, rfl, ⟨by decide, by decide, by decide⟩, _, _, rfl, rfl, _, rfl, ite2 (fun c1 => ?_) (fun _ => fin)⟩
          refine ⟨_, rfl, _, rfl, d, _, rfl, get_script hd2, ?_⟩
          dsimp only [tNil]
          refine ⟨_, _, rfl, .inl (SqL.of hS2), _, _, rfl, rfl, _, rfl, ite2 (fun c2 => ?_) (fun _ => fin)⟩
          refine ⟨_, rfl, _, rfl, _, _, rfl, rfl, hc _, _, rfl, d, _, rfl, put_left hd2, ?_⟩
          obtain ⟨r, hr1, hr2⟩ := emod_nat (a := cell) hn0
          refine ⟨_, rfl, _, rfl, _, _, rfl, rfl, (by show (0 : Int) < n; omega), ?_⟩
          show Q (.int (cell % (n : Int))) _
          rw [hr1]
          exact q r _ hr2 (b2.trans (upd_but (List.mem_singleton.mpr rfl))) (upd_tape hd2 hS2 hlen).1
        · rintro σ3 H3 ⟨b3, hd3, hS3, cell3, v23, v53, rfl⟩
          refine ⟨_, rfl, _, _, rfl, rfl, (by show (0 : Int) < 2147483629; decide), _, rfl, _, _, rfl, rfl, .inl ⟨by decide, by decide⟩, _, _, rfl, rfl, _, _, rfl, rfl, _, _, rfl, rfl, .inr ⟨by decide, by decide⟩, _, _, rfl, rfl, (by show (0 : Int) < 2147483647; decide), ?_⟩
          refine ⟨_, rfl, _, _, rfl, rfl, ⟨by decide, by decide⟩, _, rfl, _, _, rfl, rfl, .inl ⟨by decide, by decide⟩, _, _, rfl, rfl, _, _, rfl, rfl, _, _, rfl, rfl, .inr ⟨by decide, by decide⟩, _, _, rfl, rfl, (by show (0 : Int) < 2147483587; decide), ?_⟩
          refine ⟨_, rfl, _, _, rfl, rfl, ⟨by decide, by decide⟩, _, rfl, _, _, rfl, rfl, (by show (0 : Int) < n; omega), ?_⟩
          dsimp only
          generalize (_ : Int) / 64 = z
          obtain ⟨r, hr1, hr2⟩ := emod_nat (a := z) hn0
          rw [hr1]
          exact q r _ hr2 b3 ⟨ns, turn + 1, left, hd3, hS3, hlen⟩
end
end K58
set_option Elab.async false
set_option linter.all false
set_option maxRecDepth 100000
set_option maxHeartbeats 4000000
set_option autoImplicit false
namespace K58
open PySem PySem.Spec PyProof.Rows L2
open Evl (Ex)
section
variable {P : Program} {w : World} {K : PySem.W.Frag} {mg : Str → Option Value} {base : Heap}
def sp__law_frac (_ : Program) (_ : World) (K : PySem.W.Frag) : Sp := Pm 2 fun vs H Q => ∃ p q : Nat, vs = [.int p, .int q] ∧ 0 < q ∧ q ≤ 100000000 ∧ ∀ v H', Ex H H' → SpeedAt K H' v (p / Nat.gcd p q) (q / Nat.gcd p q) → Q v H'
/-! ### _law_frac -/
abbrev N_sc__law_frac : List Str := ["_law_top", "_law_bottom", "_law_one", "_law_other"]
theorem sc__law_frac : FnScope N_sc__law_frac ["_law_top", "_law_bottom"] (defScope s__law_frac) := ⟨rfl, rfl, rfl, by decide +kernel, rfl, by decide +kernel, by decide +kernel⟩
theorem cl__law_frac {f : Addr} {fd : FuncData} (T : Tx K mg) (F : FnP K "_law_frac" "_law_frac" s__law_frac f fd) (m : mg "_law_frac" = some (.ref f))  :
    Clb P w K mg base "_law_frac" 1 ["_law_top", "_law_bottom"] (sp__law_frac P w K) := by
    refine clb_of m F (F.bindsN fun _ _ _ _ _ _ us hl => match us, hl with | [_, _], _ => rfl) (F.ok sc__law_frac (fun _ _ _ _ h => by exact pm_len h) (fun cdv A outer s H vs Q E hr h => ?_))
    obtain ⟨_, a, b, rfl, h0, h1, k⟩ := h
    refine ⟨_, PSs.nox (pss_cons (ps_par (i := 2) (j := 3) (by rfl) sc__law_frac.nd rfl rfl (by decide) rfl rfl (pa_cons (pv 0) (pa_cons (pv 1) pa_nil)) (by rfl))
      (pss_cons (ps_while PassesOwn.never (pt_cmpR op_gt (pv 3) pe_int (nomark _))
      (pss_one (ps_par (i := 2) (j := 3) (by rfl) sc__law_frac.nd rfl rfl (by decide) rfl rfl (pa_cons (pv 3) (pa_cons (pe_op op_mod (pv 2) (pv 3)) pa_nil)) (by rfl))))
      (pss_one (ps_ret (pe_tup (pa_cons (pe_op op_fdiv (pv 0) (pv 2)) (pa_cons (pe_op op_fdiv (pv 1) (pv 2)) pa_nil))))))), ?_⟩
    refine ⟨_, rfl, _, rfl, _, _, rfl, ?_⟩
    refine ⟨fun m σ H' => H' = H ∧ ∃ x y : Nat, y = m ∧ σ = [some (.int a), some (.int b), some (.int x), some (.int y)] ∧ Nat.gcd x y = Nat.gcd a b, ⟨b, rfl, a, b, rfl, rfl, rfl⟩, ?_⟩
    rintro m σ H' ⟨rfl, x, y, rfl, rfl, e⟩
    refine ⟨_, rfl, _, _, rfl, rfl, _, rfl, ite2 (fun c => ?_) (fun c => ?_)⟩
    · have hy : 0 < y := by have := of_decide_eq_true c; omega
      refine ⟨fun σ' H2 => ∃ m', m' < y ∧ (H2 = H' ∧ ∃ x y : Nat, y = m' ∧ σ' = [some (.int a), some (.int b), some (.int x), some (.int y)] ∧ Nat.gcd x y = Nat.gcd a b), fun _ _ h => h, ?_⟩
      refine ⟨_, rfl, _, rfl, _, rfl, _, _, rfl, rfl, by show (0 : Int) < y; omega, _, _, rfl, x % y, Nat.mod_lt _ hy, rfl, y, x % y, rfl, rfl, ?_⟩
      rw [← e, Nat.gcd_comm x y, Nat.gcd_rec y x, Nat.gcd_comm]
    · have hy : y = 0 := by
        have : ¬ ((0 : Int) < y) := fun z => c (decide_eq_true z)
        omega
      subst hy
      rw [Nat.gcd_zero_right] at e
      subst e
      have hg : 0 < Nat.gcd a b := Nat.gcd_pos_of_pos_right a h0
      have hg2 : Nat.gcd a b ≤ b := Nat.gcd_le_right a h0
      have hc : ∀ p : Int, CDiv p ((Nat.gcd a b : Nat) : Int) := fun p => ⟨by omega, by omega⟩
      refine ⟨_, rfl, _, rfl, _, _, rfl, rfl, hc _, _, rfl, _, rfl, _, _, rfl, rfl, hc _, by show 2 ≤ sizeLine; decide, fun p hp => ?_⟩
      exact k _ _ (Evl.Ex.new hp) ⟨p, rfl, SqT.of upd_same⟩
def sp__law_put (_ : Program) (_ : World) (K : PySem.W.Frag) : Sp := Pm 3 fun vs H Q => ∃ (lv : V) (x : List Nat) (k : Nat) (m : Int) (y : Nat), vs = [lv, .int k, .int m] ∧ RowAt K H lv x ∧ k < x.length ∧ x.length ≤ 100 ∧ (x.getD k 0 : Nat) + m = (y : Int) ∧ ∀ v H', Ex H H' → RowAt K H' v (x.set k y) → Q v H'
/-! ### _law_put -/
abbrev N_sc__law_put : List Str := ["_law_lines", "_law_k", "_law_more"]
theorem sc__law_put : FnScope N_sc__law_put ["_law_lines", "_law_k", "_law_more"] (defScope s__law_put) := ⟨rfl, rfl, rfl, by decide +kernel, rfl, by decide +kernel, by decide +kernel⟩
theorem cl__law_put {f : Addr} {fd : FuncData} (T : Tx K mg) (F : FnP K "_law_put" "_law_put" s__law_put f fd) (m : mg "_law_put" = some (.ref f))  :
    Clb P w K mg base "_law_put" 1 ["_law_lines", "_law_k", "_law_more"] (sp__law_put P w K) := by
    refine clb_of m F (F.bindsN fun _ _ _ _ _ _ us hl => match us, hl with | [_, _, _], _ => rfl) (F.ok sc__law_put (fun _ _ _ _ h => by exact pm_len h) (fun cdv A outer s H vs Q E hr h => ?_))
    obtain ⟨_, lv, x, k, m, y, rfl, ⟨la, rfl, hx⟩, hk, hl, hy, q⟩ := h
    refine ⟨_, PSs.nox (pss_one (ps_ret (pe_op (catT K) (pe_op (catT K) (pe_slice (slTA K) (pv 0) po_none (po_some (pv 1))) (pe_tup (pa_cons (pe_op op_add (pe_ix (ixT K) (pv 0) (pv 1) (fun _ _ => rfl)) (pv 2)) pa_nil))) (pe_slice (slTA K) (pv 0) (po_some (pe_op op_add (pv 1) pe_int)) po_none)))), ?_⟩
    refine sl_row (te := tVar 0) (tl := tNoPart) (th := tPart (tVar 1)) (fun _ q => ⟨_, rfl, q⟩) (fun _ q => q) (fun _ q => ⟨_, rfl, _, rfl, q⟩) hx (cut_to x k) fun p1 H1 e1 h1 => ?_
    refine ⟨_, rfl, _, rfl, _, _, _, _, rfl, rfl, Evl.ex_t e1 hx, row_at hk, _, rfl, _, _, rfl, rfl, by show 1 ≤ sizeLine; decide, fun p2 hp2 => ?_⟩
    have e2 := Evl.Ex.new (o := .tup [.int ((x.getD k 0 : Nat) + m)]) hp2
    refine catA (x := x.take k) (y := [y]) (Evl.ex_t e2 h1) (SqT.of (by rw [upd_same]; show some (HO.tup [V.int ((x.getD k 0 : Nat) + m)]) = _; rw [hy]; rfl)) (by rw [List.length_take]; simp; omega) fun p3 H3 e3 h3 => ?_
    refine sl_row (te := tVar 0) (tl := tPart (tOp (rI0 fun i j => .int (i + j)) (tVar 1) (tC (.int 1)))) (th := tNoPart) (lo := some ((k + 1 : Nat) : Int)) (fun _ q => ⟨_, rfl, q⟩) (fun _ q => ⟨_, rfl, _, _, rfl, rfl, _, rfl, q⟩) (fun _ q => q) (Evl.ex_t ((e1.trans e2).trans e3) hx) (cut_from x (k + 1)) fun p4 H4 e4 h4 => ?_
    refine catA (Evl.ex_t e4 h3) h4 (by rw [List.length_append, List.length_take, List.length_drop]; simp; omega) fun p5 H5 e5 h5 => ?_
    rw [set_cut hk] at h5
    exact q _ _ ((((e1.trans e2).trans e3).trans e4).trans e5) ⟨p5, rfl, h5⟩
def sp__law_kept (_ : Program) (_ : World) (K : PySem.W.Frag) : Sp := Pm 2 fun vs H Q => ∃ (hv lv : V) (hl : Hl) (x : List Nat), vs = [hv, lv] ∧ HlOk hl ∧ HallAt K H hv hl ∧ RowAt K H lv x ∧ x.length ≤ 1000 ∧ ∀ v H', Ex H H' → RowAt K H' v (srt x) → Q v H'
/-! ### _law_kept -/
abbrev N_sc__law_kept : List Str := ["_law_hall", "_law_lines", "_law_alike", "_law_server"]
theorem sc__law_kept : FnScope N_sc__law_kept ["_law_hall", "_law_lines"] (defScope s__law_kept) := ⟨rfl, rfl, rfl, by decide +kernel, rfl, by decide +kernel, by decide +kernel⟩
theorem cl__law_kept {f : Addr} {fd : FuncData} (T : Tx K mg) (F : FnP K "_law_kept" "_law_kept" s__law_kept f fd) (m : mg "_law_kept" = some (.ref f))  :
    Clb P w K mg base "_law_kept" 1 ["_law_hall", "_law_lines"] (sp__law_kept P w K) := by
    refine clb_of m F (F.bindsN fun _ _ _ _ _ _ us hl => match us, hl with | [_, _], _ => rfl) (F.ok sc__law_kept (fun _ _ _ _ h => by exact pm_len h) (fun cdv A outer s H vs Q E hr h => ?_))
    obtain ⟨_, hv, lv, hl, x, rfl, ok, ⟨ha, co, se, sv, sp, rfl, h1, h2, h3, h4⟩, ⟨la, rfl, hx⟩, hlen, q⟩ := h
    have n0 := ok.n0
    have n4 := ok.n4
    refine ⟨_, PSs.nox (pss_cons (ps_set (i := 2) sc__law_kept.nd rfl (Or.inl rfl) (pe_cmpR (eqD K hr.units) (pe_lc (own := [("_law_server", 3)]) rfl sc__law_kept.nd (pi_tup (pe_ix (ixT K) (pv 0) pe_int (fun _ _ => rfl))) (blkOk_by (own := [("_law_server", 3)]) (N := N_sc__law_kept) (sc := defScope s__law_kept) (by decide +kernel)) (fun _ _ _ _ _ => pg_name (i := 3) sc__law_kept.nd rfl (Or.inl rfl)) (fun _ _ _ _ _ => pts_one (pt_cmpR (neD K hr.units) (pv 3) (pe_ix (ixT K) (pe_ix (ixT K) (pv 0) pe_int (fun _ _ => rfl)) pe_int (fun _ _ => rfl)) (nomark _))) (fun _ _ _ _ _ => (pv 3))) (pe_lst pa_nil) (nomark _)))
      (pss_one (ps_ret (pe_ifExp (pt_val (pv 2) (fun _ => rfl)) (pe_callTy call_tuple_of (by rfl) T.m_tuple (by decide +kernel) (pa_cons (pe_callBK (cr_sortTR (u4 hr)) (by rfl) T.m_sorted (by decide +kernel) (pa_cons (pv 1) pa_nil) (pk_cons pe_bl pk_nil)) pa_nil)) (pv 1))))), ?_⟩
    refine ⟨_, rfl, _, _, _, _, rfl, rfl, h1, rfl, se, rfl, ⟨_, h2⟩, fun D hD => lc_tup (K := K) (a := se) (xs := List.replicate hl.n (.ref sv)) (fun i H' => Ex H H' ∧ H' D = some (.lst [])) ⟨Evl.Ex.new hD, upd_same⟩ (fun i H' _ h => Evl.ex_t h.1 h2) ?_ ?_⟩
    · rintro i v H' hi ⟨e, hD'⟩
      obtain rfl := rep_v hi
      refine ⟨rfl, _, rfl, _, rfl, _, _, _, _, rfl, rfl, Evl.ex_t e h1, rfl, _, _, _, _, rfl, rfl, Evl.ex_t e h2, rep_atz (k := 0) rfl n0, dSrv hl, dSrv hl, srv_dp (Evl.ex_t e h3) (Evl.ex_t e h4), srv_dp (Evl.ex_t e h3) (Evl.ex_t e h4), rfl, rfl, _, rfl, ?_⟩
      rw [srv_eq]
      exact iteF ⟨e, hD'⟩
    · rintro H' ⟨e, hD'⟩
      refine ⟨Nat.zero_le _, fun l hl => ?_⟩
      have e1 := Evl.Ex.new (o := .lst []) hl
      refine ⟨_, _, dp_list (ns := []) (e1 _ _ hD'), dp_list (ns := []) upd_same, shaped_list [], shaped_list [], ?_⟩
      refine ⟨_, rfl, true, ?_, ?_⟩
      · show V.bl _ = V.bl _
        rfl
      refine iteT ?_
      refine ⟨_, rfl, la, x.map (fun n : Nat => (n : Int)), rfl, rfl, by rw [← rowV_ints]; exact Evl.ex_t (e.trans e1) hx, fun p hp => ?_⟩
      rw [srt_ints]
      have e2 := Evl.Ex.new (o := .lst (rowV (srt x))) hp
      refine ⟨p, _, rfl, .inl ⟨SqL.of upd_same, fun l hl => ?_⟩⟩
      exact q _ _ (((e.trans e1).trans e2).trans (Evl.Ex.new hl)) ⟨l, rfl, SqT.of upd_same⟩
def sp__law_all_lines (_ : Program) (_ : World) (K : PySem.W.Frag) : Sp := Pm 1 fun vs H Q => ∃ (a : Addr) (n r : Nat), vs = [.ref a] ∧ SqL K H a (List.replicate n (.int r)) ∧ n ≤ 4 ∧ r ≤ 4 ∧ ∀ p H', H p = none → Ex H H' → LsAt (RowAt K H') H' p (lins r n) → Q (.ref p) H'
theorem lins_small {r i : Nat} (hr : r ≤ 4) (hi : i ≤ 4) : (lins r i).length ≤ 625 := by
  rw [lins_len]
  exact Nat.le_trans (Nat.pow_le_pow_left (show r + 1 ≤ 5 by omega) i) (Nat.le_trans (Nat.pow_le_pow_right (by decide) hi) (by decide))
def lx (x : List Nat) (k : Nat) : List (List Nat) := (List.range k).map fun k => x ++ [k]
theorem lx_succ (x : List Nat) (k : Nat) : lx x (k + 1) = lx x k ++ [x ++ [k]] := by
  unfold lx
  rw [List.range_succ, List.map_append]
  rfl
theorem lx_len (x : List Nat) (k : Nat) : (lx x k).length = k := by unfold lx; rw [List.length_map, List.length_range]
theorem lins_succ (r i : Nat) : lins r (i + 1) = (lins r i).flatMap fun x => lx x (r + 1) := rfl
/-! ### _law_all_lines -/
abbrev N_sc__law_all_lines : List Str := ["_law_rooms", "_law_found", "_law_room", "_law_longer", "_law_lines", "_law_k"]
theorem sc__law_all_lines : FnScope N_sc__law_all_lines ["_law_rooms"] (defScope s__law_all_lines) := ⟨rfl, rfl, rfl, by decide +kernel, rfl, by decide +kernel, by decide +kernel⟩
theorem cl__law_all_lines {f : Addr} {fd : FuncData} (T : Tx K mg) (F : FnP K "_law_all_lines" "_law_all_lines" s__law_all_lines f fd) (m : mg "_law_all_lines" = some (.ref f))  :
    Clb P w K mg base "_law_all_lines" 1 ["_law_rooms"] (sp__law_all_lines P w K) := by
    refine clb_of m F (F.bindsN fun _ _ _ _ _ _ us hl => match us, hl with | [_], _ => rfl) (F.ok sc__law_all_lines (fun _ _ _ _ h => by exact pm_len h) (fun cdv A outer s H vs Q E hr h => ?_))
    obtain ⟨_, ra, n, r, rfl, hR, n4, r4, q⟩ := h
    refine ⟨_, PSs.nox (pss_cons (ps_set (i := 1) sc__law_all_lines.nd rfl (Or.inl rfl) (pe_lst (pa_cons (pe_tup pa_nil) pa_nil)))
      (pss_cons (ps_for PassesOwn.never rfl (pi_list (pv 0)) (pg_name (i := 2) sc__law_all_lines.nd rfl (Or.inl rfl))
      (pss_cons (ps_set (i := 3) sc__law_all_lines.nd rfl (Or.inl rfl) (pe_lst pa_nil))
      (pss_cons (ps_for PassesOwn.never rfl (pi_list (pv 1)) (pg_name (i := 4) sc__law_all_lines.nd rfl (Or.inr rfl))
      (pss_one (ps_expr (pe_bm PySem.F.plainAttrs_list PySem.F.slot_list_extend PySem.F.type_list_extend mt_extend (pv 3) (pa_cons (pe_lc (own := [("_law_k", 5)]) rfl sc__law_all_lines.nd (pi_range1 (by rfl) T.m_range (pa_cons (pe_op op_add (pv 2) pe_int) pa_nil)) (blkOk_by (own := [("_law_k", 5)]) (N := N_sc__law_all_lines) (sc := defScope s__law_all_lines) (by decide +kernel)) (fun _ _ _ _ _ => pg_name (i := 5) sc__law_all_lines.nd rfl (Or.inl rfl)) (fun _ _ _ _ _ => pts_nil) (fun _ _ _ _ _ => (pe_op (catT K) (pv 4) (pe_tup (pa_cons (pv 5) pa_nil))))) pa_nil)))))
      (pss_one (ps_set (i := 1) sc__law_all_lines.nd rfl (Or.inl rfl) (pv 3))))))
      (pss_one (ps_ret (pv 1))))), ?_⟩
    refine ⟨Nat.zero_le _, fun p0 hp0 => ⟨by show 1 ≤ sizeLine; decide, fun p1 hp1 => ?_⟩⟩
    have e0 := Evl.Ex.new (o := .tup []) hp0
    have e1 := Evl.Ex.new (o := .lst [.ref p0]) hp1
    have f1 := Evl.fresh_back e0 hp1
    refine ⟨_, rfl, ra, rfl, ⟨_, Evl.ex_l (e0.trans e1) hR⟩, for_list (K := K) (a := ra) (xs := List.replicate n (.int r))
      (fun i σ H' => Ex H H' ∧ ∃ fp v2 v3 v4 v5, σ = [some (.ref ra), some (.ref fp), v2, v3, v4, v5] ∧ H fp = none ∧ LsAt (RowAt K H') H' fp (lins r i)) ⟨e0.trans e1, p1, none, none, none, none, rfl, f1, _, upd_same, .cons ⟨p0, rfl, Evl.ex_t e1 (SqT.of upd_same)⟩ .nil⟩ (fun i σ H' _ h => Evl.ex_l h.1 hR) ?_ ?_⟩
    · rintro i v σ H' hi ⟨e, fp, v2, v3, v4, v5, rfl, hfp, vs, hvs, hall⟩
      obtain rfl := rep_v hi
      have hi4 : i < n := by have := (List.getElem?_eq_some_iff.mp hi).1; rw [List.length_replicate] at this; exact this
      have hlen := lins_small r4 (show i ≤ 4 by omega)
      refine ⟨Nat.zero_le _, fun lp hlp => ?_⟩
      have e2 := Evl.Ex.new (o := .lst []) hlp
      have hne : fp ≠ lp := ne_of_none hvs hlp
      refine ⟨_, rfl, fp, rfl, ⟨vs, SqL.of (e2 _ _ hvs)⟩, for_list (K := K) (a := fp) (xs := vs)
        (fun j σ H2 => Ex H' H2 ∧ ∃ w4 w5, σ = [some (.ref ra), some (.ref fp), some (.int r), some (.ref lp), w4, w5] ∧ LsAt (RowAt K H2) H2 lp (((lins r i).take j).flatMap fun x => lx x (r + 1))) ⟨e2, v4, v5, rfl, [], upd_same, .nil⟩ (fun j σ H2 _ h => SqL.of (h.1 _ _ hvs)) ?_ ?_⟩
      · rintro j ov σ H2 hj ⟨e3, w4, w5, rfl, us, hus, hal⟩
        obtain ⟨o, ho, ⟨oa, rfl, hoa⟩⟩ := hall.get hj
        have hjl : j < (lins r i).length := (List.getElem?_eq_some_iff.mp ho).1
        have e03 := e.trans e3
        have hoa3 := Evl.ex_t e3 hoa
        have hon := (lins_mem.mp (List.mem_of_getElem? ho)).1
        refine ⟨_, rfl, .inl ⟨rfl, _, SqL.of hus⟩, _, rfl, _, _, rfl, rfl, _, rfl, by omega, by omega, fun D hD => lc_range (lo := 0) (n := r + 1)
          (fun k H3 => Ex H2 H3 ∧ ∃ ws, H3 D = some (.lst ws) ∧ AllR (RowAt K H3) ws (lx o k)) ⟨Evl.Ex.new hD, [], upd_same, .nil⟩ ?_ ?_⟩
        · rintro k H3 hk ⟨e4, ws, hws, hwr⟩
          refine ⟨rfl, ?_⟩
          dsimp only [tYes]
          rw [show (0 : Int) + (k : Int) = (k : Int) by omega]
          refine iteT ⟨_, rfl, _, rfl, by show 1 ≤ sizeLine; decide, fun q1 hq1 => ?_⟩
          have e5 := Evl.Ex.new (o := .tup [.int (k : Int)]) hq1
          have hDq : D ≠ q1 := ne_of_none hws hq1
          refine catA (x := o) (y := [k]) (Evl.ex_t (e4.trans e5) hoa3) (SqT.of (by rw [upd_same]; rfl)) (by rw [hon]; simp; omega) fun q2 H4 e6 hq2 => ?_
          have e56 := e5.trans e6
          refine ⟨ws, e56 _ _ hws, ?_, Evl.Ex.mut (e4.trans e56) hD, ws ++ [.ref q2], upd_same, ?_⟩
          · rw [hwr.len, lx_len, sizeLine_eq]
            omega
          · rw [lx_succ]
            exact AllR.app ((hwr.row e56).mono fun v x hr => hr.upd (e56 _ _ hws)) (.cons ⟨q2, rfl, sqt_upd (e56 _ _ hws) hq2⟩ .nil)
        · rintro H3 ⟨e4, ws, hws, hwr⟩
          have hDl : lp ≠ D := ne_of_none hus hD
          refine ⟨lp, D, us, ws, rfl, rfl, e4 _ _ hus, hws, ?_, ?_⟩
          · rw [hal.len, hwr.len, lx_len, sizeLine_eq]
            have a := flat_len (fun x => lx x (r + 1)) (r + 1) (fun x => Nat.le_of_eq (lx_len x _)) ((lins r i).take j)
            have c : ((lins r i).take j).length ≤ 625 := by rw [List.length_take]; omega
            have d : ((lins r i).take j).length * (r + 1) ≤ 625 * 5 := Nat.mul_le_mul c (by omega)
            omega
          · refine ⟨Evl.Ex.mut (e3.trans e4) hlp, _, _, rfl, us ++ ws, upd_same, ?_⟩
            rw [take_snoc ho, List.flatMap_append]
            refine AllR.app ((hal.row e4).mono fun v x hr => hr.upd (e4 _ _ hus)) ?_
            rw [List.flatMap_cons, List.flatMap_nil, List.append_nil]
            exact hwr.mono fun v x hr => hr.upd (e4 _ _ hus)
      · rintro σ H2 ⟨e3, w4, w5, rfl, us, hus, hal⟩
        rw [hall.len, List.take_of_length_le (Nat.le_refl _), ← lins_succ] at hal
        exact ⟨_, rfl, e.trans e3, lp, _, _, _, _, rfl, Evl.fresh_back e hlp, us, hus, hal⟩
    · rintro σ H' ⟨e, fp, v2, v3, v4, v5, rfl, hfp, hls⟩
      rw [List.length_replicate] at hls
      exact ⟨_, rfl, q fp H' hfp e hls⟩
end
end K58
set_option Elab.async false
set_option linter.all false
set_option maxRecDepth 100000
set_option maxHeartbeats 4000000
set_option autoImplicit false
namespace K58
open PySem PySem.Spec PyProof.Rows L2
open Evl (Ex)
section
variable {P : Program} {w : World} {K : PySem.W.Frag} {mg : Str → Option Value} {base : Heap}
def sp__law_moves (_ : Program) (_ : World) (K : PySem.W.Frag) : Sp := Pm 1 fun vs H Q => ∃ (hv : V) (hl : Hl), vs = [hv] ∧ HlOk hl ∧ HallAt K H hv hl ∧ ∀ p H', H p = none → Ex H H' → LsAt (MvAt K H') H' p (moves hl.n) → Q (.ref p) H'
/-! ### _law_moves -/
abbrev N_sc__law_moves : List Str := ["_law_hall", "_law_orders", "_law_turn", "_law_longer", "_law_order", "_law_k", "_law_found"]
theorem sc__law_moves : FnScope N_sc__law_moves ["_law_hall"] (defScope s__law_moves) := ⟨rfl, rfl, rfl, by decide +kernel, rfl, by decide +kernel, by decide +kernel⟩
theorem cl__law_moves {f : Addr} {fd : FuncData} (T : Tx K mg) (F : FnP K "_law_moves" "_law_moves" s__law_moves f fd) (m : mg "_law_moves" = some (.ref f))  :
    Clb P w K mg base "_law_moves" 1 ["_law_hall"] (sp__law_moves P w K) := by
    refine clb_of m F (F.bindsN fun _ _ _ _ _ _ us hl => match us, hl with | [_], _ => rfl) (F.ok sc__law_moves (fun _ _ _ _ h => by exact pm_len h) (fun cdv A outer s H vs Q E hr h => ?_))
    obtain ⟨_, hv, hl, rfl, ok, ⟨ha, co, se, sv, sp, rfl, h1, h2, h3, h4⟩, q⟩ := h
    have n0 := ok.n0
    have n4 := ok.n4
    refine ⟨_, PSs.nox (pss_cons (ps_set (i := 1) sc__law_moves.nd rfl (Or.inl rfl) (pe_lst (pa_cons (pe_tup pa_nil) pa_nil)))
      (pss_cons (ps_for PassesOwn.never rfl (pi_tup (pe_ix (ixT K) (pv 0) pe_int (fun _ _ => rfl))) (pg_name (i := 2) sc__law_moves.nd rfl (Or.inl rfl))
      (pss_cons (ps_set (i := 3) sc__law_moves.nd rfl (Or.inl rfl) (pe_lst pa_nil))
      (pss_cons (ps_for PassesOwn.never rfl (pi_list (pv 1)) (pg_name (i := 4) sc__law_moves.nd rfl (Or.inr rfl))
      (pss_one (ps_expr (pe_bm PySem.F.plainAttrs_list PySem.F.slot_list_extend PySem.F.type_list_extend mt_extend (pv 3) (pa_cons (pe_lc (own := [("_law_k", 5)]) rfl sc__law_moves.nd (pi_range1 (by rfl) T.m_range (pa_cons (pe_callB (lenQ K) (by rfl) T.m_len PySem.boot_len (pa_cons (pe_ix (ixT K) (pv 0) pe_int (fun _ _ => rfl)) pa_nil)) pa_nil)) (blkOk_by (own := [("_law_k", 5)]) (N := N_sc__law_moves) (sc := defScope s__law_moves) (by decide +kernel)) (fun _ _ _ _ _ => pg_name (i := 5) sc__law_moves.nd rfl (Or.inl rfl)) (fun _ _ _ _ _ => pts_one (pt_cmpR (niS K) (pv 5) (pv 4) rfl)) (fun _ _ _ _ _ => (pe_op (catT K) (pv 4) (pe_tup (pa_cons (pv 5) pa_nil))))) pa_nil)))))
      (pss_one (ps_set (i := 1) sc__law_moves.nd rfl (Or.inl rfl) (pv 3))))))
      (pss_cons (ps_set (i := 6) sc__law_moves.nd rfl (Or.inl rfl) (pe_op op_cat (pe_lc (own := [("_law_order", 4)]) rfl sc__law_moves.nd (pi_list (pv 1)) (blkOk_by (own := [("_law_order", 4)]) (N := N_sc__law_moves) (sc := defScope s__law_moves) (by decide +kernel)) (fun _ _ _ _ _ => pg_name (i := 4) sc__law_moves.nd rfl (Or.inl rfl)) (fun _ _ _ _ _ => pts_nil) (fun _ _ _ _ _ => (pe_tup (pa_cons pe_str (pa_cons (pv 4) pa_nil))))) (pe_lc (own := [("_law_k", 5)]) rfl sc__law_moves.nd (pi_range1 (by rfl) T.m_range (pa_cons (pe_callB (lenQ K) (by rfl) T.m_len PySem.boot_len (pa_cons (pe_ix (ixT K) (pv 0) pe_int (fun _ _ => rfl)) pa_nil)) pa_nil)) (blkOk_by (own := [("_law_k", 5)]) (N := N_sc__law_moves) (sc := defScope s__law_moves) (by decide +kernel)) (fun _ _ _ _ _ => pg_name (i := 5) sc__law_moves.nd rfl (Or.inl rfl)) (fun _ _ _ _ _ => pts_nil) (fun _ _ _ _ _ => (pe_tup (pa_cons pe_str (pa_cons (pv 5) pa_nil)))))))
      (pss_one (ps_ret (pe_op op_cat (pv 6) (pe_lst (pa_cons (pe_tup (pa_cons pe_str pa_nil)) pa_nil)))))))), ?_⟩
    refine ⟨Nat.zero_le _, fun p0 hp0 => ⟨by show 1 ≤ sizeLine; decide, fun p1 hp1 => ?_⟩⟩
    have e0 := Evl.Ex.new (o := .tup []) hp0
    have e1 := Evl.Ex.new (o := .lst [.ref p0]) hp1
    have f1 := Evl.fresh_back e0 hp1
    refine ⟨_, rfl, _, _, _, _, rfl, rfl, Evl.ex_t (e0.trans e1) h1, rfl, se, rfl, ⟨_, Evl.ex_t (e0.trans e1) h2⟩, for_tup (K := K) (a := se) (xs := List.replicate hl.n (.ref sv))
      (fun i σ H' => Ex H H' ∧ ∃ fp v2 v3 v4 v5, σ = [some (.ref ha), some (.ref fp), v2, v3, v4, v5, none] ∧ H fp = none ∧ LsAt (RowAt K H') H' fp (ords hl.n i)) ⟨e0.trans e1, p1, none, none, none, none, rfl, f1, _, upd_same, .cons ⟨p0, rfl, Evl.ex_t e1 (SqT.of upd_same)⟩ .nil⟩ (fun i σ H' _ h => Evl.ex_t h.1 h2) ?_ ?_⟩
    · rintro i v σ H' hi ⟨e, fp, v2, v3, v4, v5, rfl, hfp, vs, hvs, hall⟩
      have hi4 : i < hl.n := by have := (List.getElem?_eq_some_iff.mp hi).1; rw [List.length_replicate] at this; exact this
      have hlen := ords_len n4 i (by omega)
      have h256 : (ords hl.n i).length ≤ 256 := Nat.le_trans hlen (Nat.le_trans (Nat.pow_le_pow_right (by decide) (show i ≤ 4 by omega)) (by decide))
      refine ⟨Nat.zero_le _, fun lp hlp => ?_⟩
      have e2 := Evl.Ex.new (o := .lst []) hlp
      have hne : fp ≠ lp := ne_of_none hvs hlp
      refine ⟨_, rfl, fp, rfl, ⟨vs, SqL.of (e2 _ _ hvs)⟩, for_list (K := K) (a := fp) (xs := vs)
        (fun j σ H2 => Ex H' H2 ∧ ∃ w2 w4 w5, σ = [some (.ref ha), some (.ref fp), w2, some (.ref lp), w4, w5, none] ∧ LsAt (RowAt K H2) H2 lp (((ords hl.n i).take j).flatMap (nexts hl.n))) ⟨e2, _, v4, v5, rfl, [], upd_same, .nil⟩ (fun j σ H2 _ h => SqL.of (h.1 _ _ hvs)) ?_ ?_⟩
      · rintro j ov σ H2 hj ⟨e3, w2, w4, w5, rfl, us, hus, hal⟩
        obtain ⟨o, ho, ⟨oa, rfl, hoa⟩⟩ := hall.get hj
        have hjl : j < (ords hl.n i).length := (List.getElem?_eq_some_iff.mp ho).1
        have e03 := e.trans e3
        have hoa3 := Evl.ex_t e3 hoa
        have hon := (ords_mem _ _ _ (List.mem_of_getElem? ho)).1
        refine ⟨_, rfl, .inl ⟨rfl, _, SqL.of hus⟩, _, rfl, _, _, _, _, rfl, rfl, Evl.ex_t e03 h1, rfl, se, _, rfl, .inr (Evl.ex_t e03 h2), _, rfl, by omega, by rw [List.length_replicate]; omega, fun D hD => lc_range (lo := 0) (n := (List.replicate hl.n (V.ref sv)).length)
          (fun k H3 => Ex H2 H3 ∧ ∃ ws, H3 D = some (.lst ws) ∧ AllR (RowAt K H3) ws (nx o k)) ⟨Evl.Ex.new hD, [], upd_same, .nil⟩ ?_ ?_⟩
        · rintro k H3 hk ⟨e4, ws, hws, hwr⟩
          rw [List.length_replicate] at hk
          refine ⟨rfl, _, rfl, _, rfl, oa, rowV o, rfl, .inr (Evl.ex_t e4 hoa3), rfl, rowV_flat o, _, rfl, ?_⟩
          rw [if_pos rfl, show (0 : Int) + (k : Int) = (k : Int) by omega, inV_row]
          by_cases c : k ∈ o
          · rw [decide_eq_true c]
            refine iteF ⟨e4, ws, hws, ?_⟩
            rw [nx_no c]
            exact hwr
          · rw [decide_eq_false c]
            refine iteT ⟨_, rfl, _, rfl, by show 1 ≤ sizeLine; decide, fun q1 hq1 => ?_⟩
            have e5 := Evl.Ex.new (o := .tup [.int (k : Int)]) hq1
            have hDq : D ≠ q1 := ne_of_none hws hq1
            refine catA (x := o) (y := [k]) (Evl.ex_t (e4.trans e5) hoa3) (SqT.of (by rw [upd_same]; rfl)) (by rw [hon]; simp; omega) fun q2 H4 e6 hq2 => ?_
            have e56 := e5.trans e6
            refine ⟨ws, e56 _ _ hws, ?_, Evl.Ex.mut (e4.trans e56) hD, ws ++ [.ref q2], upd_same, ?_⟩
            · rw [hwr.len, sizeLine_eq]
              have := nx_len o k
              omega
            · rw [nx_yes c]
              have hkeep : ∀ b xs, SqT K H4 b xs → SqT K (upd H4 D (.lst (ws ++ [.ref q2]))) b xs := fun b xs z => by
                rcases z with (z | ⟨oo, z⟩) | z
                · exact .inl (.inl (by rw [upd_ne (ne_of z (e56 _ _ hws) (fun y => nomatch y))]; exact z))
                · exact .inl (.inr ⟨oo, by rw [upd_ne (ne_of z (e56 _ _ hws) (fun y => nomatch y))]; exact z⟩)
                · exact .inr z
              refine AllR.app ((hwr.row e56).mono fun v x hr => ?_) (.cons ⟨q2, rfl, hkeep _ _ hq2⟩ .nil)
              obtain ⟨b, rfl, hb⟩ := hr
              exact ⟨b, rfl, hkeep _ _ hb⟩
        · rintro H3 ⟨e4, ws, hws, hwr⟩
          rw [List.length_replicate] at hwr
          have hDl : lp ≠ D := ne_of_none hus hD
          refine ⟨lp, D, us, ws, rfl, rfl, e4 _ _ hus, hws, ?_, ?_⟩
          · rw [hal.len, hwr.len, sizeLine_eq]
            have a := flat_len (nexts hl.n) hl.n (nexts_len hl.n) ((ords hl.n i).take j)
            have b := nx_len o hl.n
            have c : ((ords hl.n i).take j).length ≤ 256 := by rw [List.length_take]; omega
            have d : ((ords hl.n i).take j).length * hl.n ≤ 256 * 4 := Nat.mul_le_mul c n4
            omega
          · have hkeep : ∀ b xs, SqT K H3 b xs → SqT K (upd H3 lp (.lst (us ++ ws))) b xs := fun b xs z => by
              rcases z with (z | ⟨oo, z⟩) | z
              · exact .inl (.inl (by rw [upd_ne (ne_of z (e4 _ _ hus) (fun y => nomatch y))]; exact z))
              · exact .inl (.inr ⟨oo, by rw [upd_ne (ne_of z (e4 _ _ hus) (fun y => nomatch y))]; exact z⟩)
              · exact .inr z
            refine ⟨Evl.Ex.mut (e3.trans e4) hlp, _, _, _, rfl, us ++ ws, upd_same, ?_⟩
            rw [take_snoc ho, List.flatMap_append]
            refine AllR.app ((hal.row e4).mono fun v x hr => ?_) ?_
            · obtain ⟨b, rfl, hb⟩ := hr
              exact ⟨b, rfl, hkeep _ _ hb⟩
            · rw [List.flatMap_cons, List.flatMap_nil, List.append_nil]
              refine hwr.mono fun v x hr => ?_
              obtain ⟨b, rfl, hb⟩ := hr
              exact ⟨b, rfl, hkeep _ _ hb⟩
      · rintro σ H2 ⟨e3, w2, w4, w5, rfl, us, hus, hal⟩
        rw [hall.len, List.take_of_length_le (Nat.le_refl _), ← ords_succ] at hal
        exact ⟨_, rfl, e.trans e3, lp, _, _, _, _, rfl, Evl.fresh_back e hlp, us, hus, hal⟩
    · rintro σ H1 ⟨e1, p, v2, v3, v4, v5, rfl, hp, hls⟩
      rw [List.length_replicate] at hls
      obtain ⟨vs, hvs, hall⟩ := hls
      have hol := ords_len n4 hl.n n4
      have h256 : (ords hl.n hl.n).length ≤ 256 := Nat.le_trans hol (Nat.le_trans (Nat.pow_le_pow_right (by decide) n4) (by decide))
      refine ⟨_, rfl, p, rfl, ⟨vs, SqL.of hvs⟩, fun D hD => lc_list (K := K) (a := p) (xs := vs) (fun i H' => Ex H1 H' ∧ ∃ us, H' D = some (.lst us) ∧ AllR (MvAt K H') us (((ords hl.n hl.n).take i).map Mv.come)) ⟨Evl.Ex.new hD, [], upd_same, .nil⟩ (fun i H' _ h => SqL.of (h.1 _ _ hvs)) ?_ ?_⟩
      · rintro i v H' hi ⟨e2, us, hus, hal⟩
        obtain ⟨o, ho, ⟨oa, rfl, hoa⟩⟩ := hall.get hi
        refine ⟨rfl, ?_⟩
        dsimp only [tYes]
        refine iteT ⟨_, rfl, by show 2 ≤ sizeLine; decide, fun q1 hq1 => ?_⟩
        have e3 := Evl.Ex.new (o := .tup [.str "come", .ref oa]) hq1
        have hD3 := e3 _ _ hus
        refine ⟨us, hD3, ?_, Evl.Ex.mut (e2.trans e3) hD, us ++ [.ref q1], upd_same, ?_⟩
        · rw [hal.len, List.length_map, List.length_take, sizeLine_eq]; omega
        · rw [take_snoc ho, List.map_append]
          exact AllR.app ((hal.mv e3).mono fun _ _ h => h.upd hD3) (.cons ⟨q1, oa, rfl, sqt_upd hD3 (SqT.of upd_same), sqt_upd hD3 (Evl.ex_t (e2.trans e3) hoa)⟩ .nil)
      · rintro H2 ⟨e2, us, hus, hal⟩
        rw [hall.len, List.take_of_length_le (Nat.le_refl _)] at hal
        have hD0 := Evl.fresh_back e1 hD
        have e12 := e1.trans e2
        refine ⟨_, rfl, _, _, _, _, rfl, rfl, Evl.ex_t e12 h1, rfl, se, _, rfl, .inr (Evl.ex_t e12 h2), _, rfl, by omega, by rw [List.length_replicate]; omega, fun D2 hD2 => lc_range (lo := 0) (n := (List.replicate hl.n (V.ref sv)).length)
          (fun k H' => Ex H2 H' ∧ ∃ us, H' D2 = some (.lst us) ∧ AllR (MvAt K H') us ((List.range k).map Mv.done)) ⟨Evl.Ex.new hD2, [], upd_same, .nil⟩ ?_ ?_⟩
        · rintro k H' hk ⟨e3, ws, hws, hal2⟩
          rw [List.length_replicate] at hk
          refine ⟨rfl, ?_⟩
          dsimp only [tYes]
          rw [show (0 : Int) + (k : Int) = (k : Int) by omega]
          refine iteT ⟨_, rfl, by show 2 ≤ sizeLine; decide, fun q1 hq1 => ?_⟩
          have e4 := Evl.Ex.new (o := .tup [.str "done", .int (k : Int)]) hq1
          have hD4 := e4 _ _ hws
          refine ⟨ws, hD4, ?_, Evl.Ex.mut (e3.trans e4) hD2, ws ++ [.ref q1], upd_same, ?_⟩
          · rw [hal2.len, List.length_map, List.length_range, sizeLine_eq]; omega
          · rw [List.range_succ, List.map_append]
            exact AllR.app ((hal2.mv e4).mono fun _ _ h => h.upd hD4) (.cons ⟨q1, rfl, sqt_upd hD4 (SqT.of upd_same)⟩ .nil)
        · rintro H3 ⟨e3, ws, hws, hal2⟩
          rw [List.length_replicate] at hal2
          refine ⟨D, D2, us, ws, rfl, rfl, e3 _ _ hus, hws, ?_, fun p3 hp3 => ?_⟩
          · rw [hal.len, hal2.len, List.length_map, List.length_map, List.length_range, sizeLine_eq]; omega
          have e4 := Evl.Ex.new (o := .lst (us ++ ws)) hp3
          refine ⟨_, rfl, by show 1 ≤ sizeLine; decide, fun p4 hp4 => ⟨by show 1 ≤ sizeLine; decide, fun p5 hp5 => ?_⟩⟩
          have e5 := Evl.Ex.new (o := .tup [.str "still"]) hp4
          have e6 := Evl.Ex.new (o := .lst [.ref p4]) hp5
          have e56 := e5.trans e6
          refine ⟨p3, p5, us ++ ws, [.ref p4], rfl, rfl, e56 _ _ upd_same, upd_same, ?_, fun p6 hp6 => ?_⟩
          · rw [List.length_append, hal.len, hal2.len, List.length_map, List.length_map, List.length_range, sizeLine_eq]; simp; omega
          have e7 := Evl.Ex.new (o := .lst (us ++ ws ++ [.ref p4])) hp6
          have e47 := (e4.trans e56).trans e7
          have e37 := e3.trans e47
          refine q p6 _ (Evl.fresh_back (e12.trans (e3.trans (e4.trans e56))) hp6) (e12.trans e37) ⟨_, upd_same, ?_⟩
          exact AllR.app (AllR.app (hal.mv e37) (hal2.mv e47)) (.cons ⟨p4, rfl, Evl.ex_t (e6.trans e7) (SqT.of upd_same)⟩ .nil)
end
end K58
set_option Elab.async false
set_option linter.all false
set_option maxRecDepth 100000
set_option maxHeartbeats 4000000
set_option autoImplicit false
namespace K58
open PySem PySem.Spec PyProof.Rows L2
open Evl (Ex)
section
variable {P : Program} {w : World} {K : PySem.W.Frag} {mg : Str → Option Value} {base : Heap}
theorem place_snoc (r : Nat) (x : List Nat) (k : Nat) : place r (x ++ [k]) = place r x * (r + 1) + k := by unfold place; rw [List.foldl_append]; rfl
theorem flat_at {α β : Type} (g : α → List β) (c : Nat) (hc : 0 < c) (h : ∀ a, (g a).length = c) : ∀ (l : List α) (j : Nat), (l.flatMap g)[j]? = (l[j / c]?).bind fun a => (g a)[j % c]?
  | [], j => by simp
  | a :: l, j => by
    rw [List.flatMap_cons, List.getElem?_append, h]
    by_cases q : j < c
    · rw [if_pos q, Nat.div_eq_of_lt q, Nat.mod_eq_of_lt q]; rfl
    · have e1 : j / c = (j - c) / c + 1 := by rw [Nat.div_eq j c, if_pos ⟨hc, by omega⟩]
      have e2 : j % c = (j - c) % c := by rw [Nat.mod_eq_sub_mod (by omega)]
      rw [if_neg q, flat_at g c hc h l (j - c), e1, List.getElem?_cons_succ, e2]
theorem lx_at {x : List Nat} {c k : Nat} (h : k < c) : (lx x c)[k]? = some (x ++ [k]) := by
  unfold lx
  rw [List.getElem?_map, List.getElem?_range h]; rfl
theorem lins_ix (r : Nat) : ∀ (n j : Nat) (y : List Nat), (lins r n)[j]? = some y → place r y = j
  | 0, j, y, h => by
    obtain ⟨h1, h2⟩ := List.getElem?_eq_some_iff.mp h
    have : j = 0 := by simp [lins] at h1; exact h1
    subst this
    have : y = [] := by rw [← h2]; rfl
    subst this
    rfl
  | n + 1, j, y, h => by
    rw [lins_succ, flat_at (fun x => lx x (r + 1)) (r + 1) (by omega) (fun a => lx_len a _)] at h
    cases e : (lins r n)[j / (r + 1)]? with
    | none => rw [e] at h; cases h
    | some a =>
      rw [e] at h
      have h : (lx a (r + 1))[j % (r + 1)]? = some y := h
      rw [lx_at (Nat.mod_lt _ (by omega))] at h
      cases h
      rw [place_snoc, lins_ix r n _ a e]
      have := Nat.div_add_mod j (r + 1)
      rw [Nat.mul_comm] at this
      exact this
theorem lins_place {r n : Nat} {x : List Nat} (h : Vl n r x) : (lins r n)[place r x]? = some x := by
  obtain ⟨j, hj, e⟩ := List.mem_iff_getElem.mp (lins_mem.mpr h)
  have e2 : (lins r n)[j]? = some x := by rw [List.getElem?_eq_getElem hj, e]
  rw [lins_ix r n j x e2]
  exact e2
theorem dRow_inj {x y : List Nat} (h : (dRow x).eqv (dRow y) = true) : x = y := by
  unfold dRow at h
  rw [PyData.eqv] at h
  induction x generalizing y with
  | nil => cases y with
    | nil => rfl
    | cons b y => simp [PyData.eqvAll] at h
  | cons a x ih => cases y with
    | nil => simp [PyData.eqvAll] at h
    | cons b y =>
      simp only [List.map_cons, PyData.eqvAll, Bool.and_eq_true] at h
      have h1 := h.1
      simp [PyData.eqv] at h1
      have h2 : a = b := by omega
      rw [h2, ih h.2]
theorem rwd_random {R : Rl} (h : decide (V.str (rwd R) = V.str "random") = true) : R = .random := by
  cases R <;> first | rfl | exact absurd h (by decide +kernel) | exact absurd h (by show ¬ decide (V.str "told" = _) = true; decide +kernel)
theorem rwd_two {R : Rl} (h : decide (V.str (rwd R) = V.str "two") = true) : R = .two := by
  cases R <;> first | rfl | exact absurd h (by decide +kernel) | exact absurd h (by show ¬ decide (V.str "told" = _) = true; decide +kernel)
theorem rwd_quick {R : Rl} (h : decide (V.str (rwd R) = V.str "quick") = true) : R = .quick := by
  cases R <;> first | rfl | exact absurd h (by decide +kernel) | exact absurd h (by show ¬ decide (V.str "told" = _) = true; decide +kernel)
theorem rwd_told {R : Rl} (h : decide (V.str (rwd R) = V.str "told") = true) : ∃ ps, R = .told ps := by
  cases R with
  | told ps => exact ⟨ps, rfl⟩
  | _ => exact absurd h (by show ¬ decide (V.str (rwd _) = V.str "told") = true; decide +kernel)
theorem rows_dp {H : Hp} {vs : List V} {xs : List (List Nat)} (h : AllR (RowAt K H) vs xs) : DpAll K H vs (xs.map dRow) := by
  induction h with
  | nil => exact .nil
  | cons h t ih => exact .cons h.dp ih
theorem lay_rows : ∀ l : List (List Nat), PyData.canLayAll0 (l.map dRow) = true
  | [] => by simp [PyData.canLayAll0]
  | a :: l => by
    rw [List.map_cons, PyData.canLayAll0, lay_rows l, lay_row]
    rfl
theorem depth_row (x : List Nat) : (dRow x).depth = 1 := by unfold dRow; simp [PyData.depth, depth_nums_d]
theorem depth_rows : ∀ l : List (List Nat), PyData.depthAll (l.map dRow) ≤ 1
  | [] => by simp [PyData.depthAll]
  | a :: l => by
    rw [List.map_cons, PyData.depthAll, depth_row]
    have := depth_rows l
    omega
theorem shaped_rows (l : List (List Nat)) : SeqAt.shaped (.list (l.map dRow)) = true := by
  unfold SeqAt.shaped
  have e : (PyData.list (l.map dRow)).canLay0 = true := by rw [PyData.canLay0]; exact lay_rows l
  rw [e, PyData.depth]
  have := depth_rows l
  simp
  omega
def sp__law_sent (_ : Program) (_ : World) (K : PySem.W.Frag) : Sp := Pm 4 fun vs H Q => ∃ (hv rv lv ov : V) (hl : Hl) (R : Rl) (x o : List Nat), vs = [hv, rv, lv, ov] ∧ HlOk hl ∧ HallAt K H hv hl ∧ RuleAt K H rv R ∧ RowAt K H lv x ∧ RowAt K H ov o ∧ RlOk hl.n hl.r R ∧ Vl hl.n hl.r x ∧ o ∈ ords hl.n hl.n ∧
  ∀ H', Ex H H' → Q (.int (sent hl.r R x o : Nat)) H'
/-! ### _law_sent -/
abbrev N_sc__law_sent : List Str := ["_law_hall", "_law_rule", "_law_lines", "_law_order", "_law_rooms", "_law_speed", "_law_room", "_law_found", "_law_rest", "_law_k", "_law_one", "_law_other", "_law_mine", "_law_theirs"]
theorem sc__law_sent : FnScope N_sc__law_sent ["_law_hall", "_law_rule", "_law_lines", "_law_order"] (defScope s__law_sent) := ⟨rfl, rfl, rfl, by decide +kernel, rfl, by decide +kernel, by decide +kernel⟩
theorem cl__law_sent {f : Addr} {fd : FuncData} (T : Tx K mg) (F : FnP K "_law_sent" "_law_sent" s__law_sent f fd) (m : mg "_law_sent" = some (.ref f)) (C__law_all_lines : Clb P w K mg base "_law_all_lines" 1 ["_law_rooms"] (sp__law_all_lines P w K)) :
    Clb P w K mg base "_law_sent" 2 ["_law_hall", "_law_rule", "_law_lines", "_law_order"] (sp__law_sent P w K) := by
    refine clb_of m F (F.bindsN fun _ _ _ _ _ _ us hl => match us, hl with | [_, _, _, _], _ => rfl) (F.ok sc__law_sent (fun _ _ _ _ h => by exact pm_len h) (fun cdv A outer s H vs Q E hr h => ?_))
    obtain ⟨_, hv, rv, lv, ov, hl, R, x, o, rfl, ok, ⟨ha, co, se, sv, sp, rfl, h1, h2, h3, h4⟩, hR, ⟨la, rfl, hx⟩, ⟨oa, rfl, ho⟩, rok, vl, hord, q⟩ := h
    obtain ⟨o1, o2, o3⟩ := ords_mem _ _ o hord
    have n0 := ok.n0
    have n4 := ok.n4
    have r4 := ok.r4
    have t0 := ok.t0
    have t9 := ok.t9
    have b0 := ok.b0
    have vlen := vl.1
    refine ⟨_, PSs.nox (pss_cons (ps_if (pt_cmpR op_eq (pe_ix (ixT K) (pv 1) pe_int (fun _ _ => rfl)) pe_str (nomark _))
      (pss_one (ps_ret (pe_ix (ixT K) (pv 3) pe_int (fun _ _ => rfl))))
      pss_nil)
      (pss_cons (ps_if (pt_cmpR op_eq (pe_ix (ixT K) (pv 1) pe_int (fun _ _ => rfl)) pe_str (nomark _))
      (pss_cons (ps_setLc (i := 4) (own := [("_law_speed", 5), ("_law_room", 6)]) rfl sc__law_sent.nd rfl rfl (sw_true rfl rfl rfl (by decide +kernel)) (pi_tup (pe_ix (ixT K) (pv 0) pe_int (fun _ _ => rfl))) (blkOk_by (own := [("_law_speed", 5), ("_law_room", 6)]) (N := N_sc__law_sent) (sc := defScope s__law_sent) (by decide +kernel)) (fun _ _ _ _ _ => pg_tupQ (n := 2) K rfl (pgs_cons (pg_name (i := 5) sc__law_sent.nd rfl (Or.inl rfl)) (pgs_cons (pg_name (i := 6) sc__law_sent.nd rfl (Or.inl rfl)) pgs_nil))) (fun _ _ _ _ _ => pts_nil) (fun _ _ _ _ _ => (pv 6)))
      (pss_one (ps_ret (pe_ix (ixT K) (pe_ix (ixT K) (pv 1) pe_int (fun _ _ => rfl)) (pe_bm PySem.F.plainAttrs_list PySem.F.slot_list_index PySem.F.type_list_index (mt_indexD (u65 hr)) (pe_c C__law_all_lines hr (by rfl) (pa_cons (pv 4) pa_nil)) (pa_cons (pv 2) pa_nil)) (fun _ _ => rfl)))))
      pss_nil)
      (pss_cons (ps_set (i := 7) sc__law_sent.nd rfl (Or.inl rfl) (pe_ix (ixT K) (pv 3) pe_int (fun _ _ => rfl)))
      (Evl.pss_cut (ps_set (i := 8) sc__law_sent.nd rfl (Or.inl rfl) (pe_ifExp (pt_cmpR op_eq (pe_ix (ixT K) (pv 1) pe_int (fun _ _ => rfl)) pe_str (nomark _)) (pe_slice (slTA K) (pv 3) (po_some pe_int) (po_some pe_int)) (pe_slice (slTA K) (pv 3) (po_some pe_int) po_none)))
      (pss_cons (ps_for PassesOwn.never rfl (pi_tup (pv 8)) (pg_name (i := 9) sc__law_sent.nd rfl (Or.inl rfl))
      (pss_cons (ps_par (i := 10) (j := 11) (by rfl) sc__law_sent.nd rfl rfl (by decide) rfl rfl (pa_cons (pe_ix (ixT K) (pv 2) (pv 9) (fun _ _ => rfl)) (pa_cons (pe_ix (ixT K) (pv 2) (pv 7) (fun _ _ => rfl)) pa_nil)) (by rfl))
      (Evl.pss_cut (ps_if (pt_cmpR op_eq (pe_ix (ixT K) (pv 1) pe_int (fun _ _ => rfl)) pe_str (nomark _))
      (pss_cons (ps_par (i := 12) (j := 13) (by rfl) sc__law_sent.nd rfl rfl (by decide) rfl rfl (pa_cons (pe_ix (ixT K) (pe_ix (ixT K) (pe_ix (ixT K) (pv 0) pe_int (fun _ _ => rfl)) (pv 9) (fun _ _ => rfl)) pe_int (fun _ _ => rfl)) (pa_cons (pe_ix (ixT K) (pe_ix (ixT K) (pe_ix (ixT K) (pv 0) pe_int (fun _ _ => rfl)) (pv 7) (fun _ _ => rfl)) pe_int (fun _ _ => rfl)) pa_nil)) (by rfl))
      (pss_cons (ps_set (i := 10) sc__law_sent.nd rfl (Or.inl rfl) (pe_op op_mul (pe_op op_mul (pe_op op_add (pv 10) pe_int) (pe_ix (ixT K) (pv 12) pe_int (fun _ _ => rfl))) (pe_ix (ixT K) (pv 13) pe_int (fun _ _ => rfl))))
      (pss_one (ps_set (i := 11) sc__law_sent.nd rfl (Or.inl rfl) (pe_op op_mul (pe_op op_mul (pe_op op_add (pv 11) pe_int) (pe_ix (ixT K) (pv 13) pe_int (fun _ _ => rfl))) (pe_ix (ixT K) (pv 12) pe_int (fun _ _ => rfl)))))))
      pss_nil)
      (pss_one (ps_if (pt_cmpR op_lt (pv 10) (pv 11) (nomark _))
      (pss_one (ps_set (i := 7) sc__law_sent.nd rfl (Or.inl rfl) (pv 9)))
      pss_nil)))))
      (pss_one (ps_ret (pv 7)))))))), ?_⟩
    obtain ⟨ra, ws, rfl, hw⟩ := hR.word
    have hw0 : atI (V.str (rwd R) :: ws) 0 = some (.str (rwd R)) := at_of (j := 0) rfl rfl
    refine ⟨_, rfl, _, _, _, _, rfl, rfl, hw, hw0, rfl, _, rfl, ite2 (fun c => ?_) (fun c1 => ?_)⟩
    · have hr : R = .random := rwd_random c
      subst hr
      exact ⟨_, rfl, _, _, _, _, rfl, rfl, ho, row_atz (k := 0) rfl (by omega), q H (Evl.Ex.refl H)⟩
    refine ⟨_, rfl, _, _, _, _, rfl, rfl, hw, hw0, rfl, _, rfl, ite2 (fun c => ?_) (fun c2 => ?_)⟩
    · obtain ⟨ps, hr⟩ := rwd_told c
      subst hr
      obtain ⟨ra', pa, er, g1, g2⟩ := hR
      cases er
      refine ⟨_, rfl, _, _, _, _, rfl, rfl, h1, rfl, se, rfl, ⟨_, h2⟩, fun D hD => lc_tup (K := K) (a := se) (xs := List.replicate hl.n (.ref sv)) (fun i H' => Ex H H' ∧ H' D = some (.lst (List.replicate i (.int hl.r)))) ⟨Evl.Ex.new hD, upd_same⟩ (fun i H' _ h => Evl.ex_t h.1 h2) ?_ ?_⟩
      · rintro i v H' hi ⟨e, hD'⟩
        have hin : i < hl.n := by have := (List.getElem?_eq_some_iff.mp hi).1; rw [List.length_replicate] at this; exact this
        obtain rfl := rep_v hi
        refine ⟨sv, _, rfl, Evl.ex_t e h3, rfl, _, _, rfl, _, _, rfl, rfl, rfl, ?_⟩
        dsimp only [tYes]
        refine iteT ⟨_, rfl, _, hD', ?_, Evl.Ex.mut e hD, ?_⟩
        · rw [List.length_replicate, sizeLine_eq]; omega
        · rw [upd_same, List.replicate_succ']
      · rintro H' ⟨e, hD'⟩
        rw [List.length_replicate] at hD'
        refine ⟨_, rfl, _, _, _, _, rfl, rfl, Evl.ex_t e g1, rfl, _, rfl, rfl, D, hl.n, hl.r, rfl, SqL.of hD', n4, r4, fun p H2 hp e2 hls => ?_⟩
        obtain ⟨vs, hvs, hall⟩ := hls
        have e3 := e.trans e2
        refine ⟨.inl ⟨rfl, _, SqL.of hvs⟩, _, rfl, p, _, dRow x, (lins hl.r hl.n).map dRow, place hl.r x, dRow x, rfl, rfl, .lst (SqL.of hvs) (rows_dp hall), RowAt.dp ⟨la, rfl, Evl.ex_t e3 hx⟩, shaped_rows _, shaped_row x, ?_, SeqAt.eqv_refl _ (lay_row x), ?_, ?_⟩
        · rw [List.getElem?_map, lins_place vl]; rfl
        · intro m z' hm hz
          rw [List.getElem?_map] at hz
          cases hy : (lins hl.r hl.n)[m]? with
          | none => rw [hy] at hz; cases hz
          | some y =>
            rw [hy] at hz
            cases hz
            refine Bool.eq_false_iff.mpr fun z => ?_
            have := dRow_inj z
            subst this
            have := lins_ix _ _ _ _ hy
            omega
        · exact ⟨_, _, _, _, rfl, rfl, Evl.ex_t e3 g2, row_at (by rw [rok.1]; exact place_lt vl), q _ e3⟩
    refine ⟨_, rfl, _, _, _, _, rfl, rfl, ho, row_atz (k := 0) rfl (by omega), ?_⟩
    have hsub : ∀ rest : List Nat, (∀ k ∈ rest, k ∈ o) → ∀ i, best x (o.getD 0 0) (rest.take i) < hl.n := fun rest hs i => by
      rcases best_mem x (rest.take i) (o.getD 0 0) with z | z
      · rw [z]; exact o3 _ (getD_mem (by omega))
      · exact o3 _ (hs _ (List.mem_of_mem_take z))
    refine ⟨fun σ H1 => Ex H H1 ∧ ∃ (p : Addr) (rest : List Nat), σ = [some (.ref ha), some (.ref ra), some (.ref la), some (.ref oa), none, none, none, some (.int (o.getD 0 0 : Nat)), some (.ref p), none, none, none, none, none] ∧ SqT K H1 p (rowV rest) ∧ (∀ k ∈ rest, k ∈ o) ∧ best x (o.getD 0 0) rest = sent hl.r R x o, ?_, ?_⟩
    · refine ⟨_, rfl, _, _, _, _, rfl, rfl, hw, hw0, rfl, _, rfl, ite2 (fun c => ?_) (fun c3 => ?_)⟩
      · have hr : R = .two := rwd_two c
        subst hr
        refine sl_row (te := tVar 3) (tl := tPart (tC (.int 1))) (th := tPart (tC (.int 2))) (fun _ q => ⟨_, rfl, q⟩) (fun _ q => ⟨_, rfl, q⟩) (fun _ q => ⟨_, rfl, q⟩) ho (cut_mid o 1 2) fun p H1 e1 hp => ?_
        refine ⟨e1, p, (o.drop 1).take 1, rfl, hp, fun k hk => List.mem_of_mem_drop (List.mem_of_mem_take hk), ?_⟩
        match o with
        | [] => rfl
        | [a] => rfl
        | a :: b :: o =>
          show best x a [b] = if 1 < (a :: b :: o).length ∧ x.getD b 0 < x.getD a 0 then b else a
          rw [best, best]
          by_cases z : x.getD b 0 < x.getD a 0
          · rw [if_pos z, if_pos ⟨by simp, z⟩]
          · rw [if_neg z, if_neg fun y => z y.2]
      · refine sl_row (te := tVar 3) (tl := tPart (tC (.int 1))) (th := tNoPart) (fun _ q => ⟨_, rfl, q⟩) (fun _ q => ⟨_, rfl, q⟩) (fun _ q => q) ho (cut_from o 1) fun p H1 e1 hp => ?_
        refine ⟨e1, p, o.drop 1, rfl, hp, fun k hk => List.mem_of_mem_drop hk, ?_⟩
        cases R with
        | random => exact absurd rfl c1
        | two => exact absurd rfl c3
        | told ps => exact absurd rfl c2
        | least => rfl
        | quick => rfl
    · rintro σ H1 ⟨e1, p, rest, rfl, hp, hs, hb⟩
      refine ⟨_, rfl, p, rfl, ⟨_, hp⟩, for_tup (K := K) (a := p) (xs := rowV rest)
        (fun i σ H' => H' = H1 ∧ ∃ v9 v10 v11 v12 v13, σ = [some (.ref ha), some (.ref ra), some (.ref la), some (.ref oa), none, none, none, some (.int (best x (o.getD 0 0) (rest.take i) : Nat)), some (.ref p), v9, v10, v11, v12, v13]) ⟨rfl, none, none, none, none, none, rfl⟩ (fun i σ H' _ h => by rw [h.1]; exact hp) ?_ ?_⟩
      · rintro i v σ H' hi ⟨rfl, v9, v10, v11, v12, v13, rfl⟩
        have hil : i < rest.length := by
          have := (List.getElem?_eq_some_iff.mp hi).1
          rw [rowV_len] at this
          exact this
        have hv : v = .int (rest.getD i 0) := by
          unfold rowV at hi
          rw [List.getElem?_map, some_of hil] at hi
          exact (Option.some.inj hi).symm
        subst hv
        have hk : rest.getD i 0 < hl.n := o3 _ (hs _ (getD_mem hil))
        have hf := hsub rest hs i
        rw [take_succ' hil, best_snoc]
        generalize rest.getD i 0 = k at *
        generalize best x (o.getD 0 0) (rest.take i) = g at *
        have xk := vl.2 _ (getD_mem (o := x) (i := k) (by omega))
        have xg := vl.2 _ (getD_mem (o := x) (i := g) (by omega))
        refine ⟨_, rfl, _, rfl, _, _, _, _, rfl, rfl, Evl.ex_t e1 hx, row_at (by omega), _, rfl, _, rfl, _, _, _, _, rfl, rfl, Evl.ex_t e1 hx, row_at (by omega), _, _, rfl, ?_⟩
        refine ⟨fun σ H2 => H2 = H' ∧ ∃ (a b : Int) (v12 v13 : Option V), σ = [some (.ref ha), some (.ref ra), some (.ref la), some (.ref oa), none, none, none, some (.int (g : Nat)), some (.ref p), some (.int k), some (.int a), some (.int b), v12, v13] ∧ decide (a < b) = decide (x.getD k 0 < x.getD g 0), ?_, ?_⟩
        · have g1 := Evl.ex_t e1 h1
          have g2 := Evl.ex_t e1 h2
          have g3 := Evl.ex_t e1 h3
          have g4 := Evl.ex_t e1 h4
          refine ⟨_, rfl, _, _, _, _, rfl, rfl, Evl.ex_t e1 hw, hw0, rfl, _, rfl, ite2 (fun c => ?_) (fun _ => ⟨rfl, _, _, _, _, rfl, decide_eq_decide.mpr (by omega)⟩)⟩
          refine ⟨_, rfl, _, _, _, _, rfl, rfl, g1, rfl, _, rfl, _, _, _, _, rfl, rfl, g2, rep_atz rfl hk, _, _, _, _, rfl, rfl, g3, rfl, _, rfl, _, _, _, _, rfl, rfl, g1, rfl, _, rfl, _, _, _, _, rfl, rfl, g2, rep_atz rfl hf, _, _, _, _, rfl, rfl, g3, rfl, _, _, rfl, ?_⟩
          refine ⟨_, rfl, _, _, rfl, rfl, _, rfl, _, _, _, _, rfl, rfl, g4, rfl, _, _, rfl, rfl, .inl ⟨by omega, by omega⟩, _, rfl, _, _, _, _, rfl, rfl, g4, rfl, _, _, rfl, rfl, .inr ⟨by omega, by omega⟩, ?_⟩
          refine ⟨_, rfl, _, _, rfl, rfl, _, rfl, _, _, _, _, rfl, rfl, g4, rfl, _, _, rfl, rfl, .inl ⟨by omega, by omega⟩, _, rfl, _, _, _, _, rfl, rfl, g4, rfl, _, _, rfl, rfl, .inr ⟨by omega, by omega⟩, ?_⟩
          refine ⟨rfl, _, _, _, _, rfl, ?_⟩
          have hbt : (0 : Int) < (hl.b : Int) * (hl.t : Int) := Int.mul_pos (by omega) (by omega)
          show decide (((x.getD k 0 : Nat) + 1 : Int) * (hl.b : Int) * (hl.t : Int) < ((x.getD g 0 : Nat) + 1 : Int) * (hl.b : Int) * (hl.t : Int)) = _
          rw [Int.mul_assoc, Int.mul_assoc]
          refine decide_eq_decide.mpr ⟨fun z => ?_, fun z => Int.mul_lt_mul_of_pos_right (by omega) hbt⟩
          have := Int.lt_of_mul_lt_mul_right z (Int.le_of_lt hbt)
          omega
        · rintro σ H' ⟨rfl, a, b, v12, v13, rfl, hab⟩
          refine ⟨_, rfl, _, rfl, _, _, rfl, rfl, _, rfl, ?_⟩
          rw [hab]
          by_cases c : x.getD k 0 < x.getD g 0
          · rw [decide_eq_true c, if_pos c]
            exact iteT ⟨_, rfl, rfl, _, _, _, _, _, rfl⟩
          · rw [decide_eq_false c, if_neg c]
            exact iteF ⟨rfl, _, _, _, _, _, rfl⟩
      · rintro σ H' ⟨rfl, v9, v10, v11, v12, v13, rfl⟩
        rw [rowV_len, List.take_of_length_le (Nat.le_refl _), hb]
        exact ⟨_, rfl, q H' e1⟩
end
end K58
set_option Elab.async false
set_option linter.all false
set_option maxRecDepth 100000
set_option maxHeartbeats 4000000
set_option autoImplicit false
namespace K58
open PySem PySem.Spec PyProof.Rows L2
open Evl (Ex)
section
variable {P : Program} {w : World} {K : PySem.W.Frag} {mg : Str → Option Value} {base : Heap}
theorem set_self {x : List Nat} {c : Nat} (h : c < x.length) : x.set c (x.getD c 0) = x := by
  have : x.getD c 0 = x[c] := by simp [List.getD, h]
  rw [this]
  exact List.set_getElem_self h
def StepAt (K : PySem.W.Frag) (H : Hp) (a : Addr) (y : List Nat) (b : Bool) : Prop := ∃ p wd, SqT K H a [.ref p, .str wd] ∧ SqT K H p (rowV y) ∧ decide (V.str wd = V.str "away") = b
def sp__law_step (_ : Program) (_ : World) (K : PySem.W.Frag) : Sp := Pm 4 fun vs H Q => ∃ (hv rv lv mv : V) (hl : Hl) (R : Rl) (x : List Nat) (m : Mv), vs = [hv, rv, lv, mv] ∧ HlOk hl ∧ HallAt K H hv hl ∧ RuleAt K H rv R ∧ RowAt K H lv x ∧ MvAt K H mv m ∧ RlOk hl.n hl.r R ∧ Vl hl.n hl.r x ∧ m ∈ moves hl.n ∧
  ∀ a H', Ex H H' → StepAt K H' a (step hl.r R x m).1 (step hl.r R x m).2 → Q (.ref a) H'
/-! ### _law_step -/
abbrev N_sc__law_step : List Str := ["_law_hall", "_law_rule", "_law_lines", "_law_move", "_law_word", "_law_k", "_law_longest", "_law_void"]
theorem sc__law_step : FnScope N_sc__law_step ["_law_hall", "_law_rule", "_law_lines", "_law_move"] (defScope s__law_step) := ⟨rfl, rfl, rfl, by decide +kernel, rfl, by decide +kernel, by decide +kernel⟩
theorem cl__law_step {f : Addr} {fd : FuncData} (T : Tx K mg) (F : FnP K "_law_step" "_law_step" s__law_step f fd) (m : mg "_law_step" = some (.ref f)) (C__law_put : Clb P w K mg base "_law_put" 1 ["_law_lines", "_law_k", "_law_more"] (sp__law_put P w K)) (C__law_sent : Clb P w K mg base "_law_sent" 2 ["_law_hall", "_law_rule", "_law_lines", "_law_order"] (sp__law_sent P w K)) :
    Clb P w K mg base "_law_step" 3 ["_law_hall", "_law_rule", "_law_lines", "_law_move"] (sp__law_step P w K) := by
    refine clb_of m F (F.bindsN fun _ _ _ _ _ _ us hl => match us, hl with | [_, _, _, _], _ => rfl) (F.ok sc__law_step (fun _ _ _ _ h => by exact pm_len h) (fun cdv A outer s H vs Q E hr h => ?_))
    obtain ⟨_, hv, rv, lv, mv, hl, R, x, m, rfl, ok, hH, hR, ⟨la, rfl, hx⟩, hM, rok, vl, hm, q⟩ := h
    have n0 := ok.n0
    have n4 := ok.n4
    have r4 := ok.r4
    have vlen := vl.1
    refine ⟨_, PSs.nox (pss_cons (ps_set (i := 4) sc__law_step.nd rfl (Or.inl rfl) pe_str)
      (Evl.pss_cut (ps_if (pt_cmpR op_eq (pe_ix (ixT K) (pv 3) pe_int (fun _ _ => rfl)) pe_str (nomark _))
      (pss_cons (ps_set (i := 5) sc__law_step.nd rfl (Or.inl rfl) (pe_c C__law_sent hr (by rfl) (pa_cons (pv 0) (pa_cons (pv 1) (pa_cons (pv 2) (pa_cons (pe_ix (ixT K) (pv 3) pe_int (fun _ _ => rfl)) pa_nil))))))
      (pss_cons (ps_set (i := 4) sc__law_step.nd rfl (Or.inl rfl) (pe_ifExp (pt_cmpR op_eq (pe_ix (ixT K) (pv 2) (pv 5) (fun _ _ => rfl)) (pe_ix (ixT K) (pe_ix (ixT K) (pe_ix (ixT K) (pv 0) pe_int (fun _ _ => rfl)) (pv 5) (fun _ _ => rfl)) pe_int (fun _ _ => rfl)) (nomark _)) pe_str pe_str))
      (pss_one (ps_set (i := 2) sc__law_step.nd rfl (Or.inl rfl) (pe_c C__law_put hr (by rfl) (pa_cons (pv 2) (pa_cons (pv 5) (pa_cons (pe_callTy call_int1 (by rfl) T.m_int (by decide +kernel) (pa_cons (pe_cmpR op_eq (pv 4) pe_str (nomark _)) pa_nil)) pa_nil))))))))
      (pss_one (ps_if (PW.pt (pw_and (pt_cmpR op_eq (pe_ix (ixT K) (pv 3) pe_int (fun _ _ => rfl)) pe_str (nomark _)) (pw_and1 (pt_cmpR op_gt (pe_ix (ixT K) (pv 2) (pe_ix (ixT K) (pv 3) pe_int (fun _ _ => rfl)) (fun _ _ => rfl)) pe_int (nomark _)))))
      (pss_cons (ps_set (i := 4) sc__law_step.nd rfl (Or.inl rfl) pe_str)
      (pss_one (ps_set (i := 2) sc__law_step.nd rfl (Or.inl rfl) (pe_c C__law_put hr (by rfl) (pa_cons (pv 2) (pa_cons (pe_ix (ixT K) (pv 3) pe_int (fun _ _ => rfl)) (pa_cons (pe_un un_neg pe_int) pa_nil)))))))
      pss_nil)))
      (pss_cons (ps_while PassesOwn.never (PW.pt (pw_and (pt_val (pe_ix (ixT K) (pv 0) pe_int (fun _ _ => rfl)) (fun _ => rfl)) (pw_and (pt_cmpR (inS K) pe_int (pv 2) rfl) (pw_and1 (pt_cmpR op_gt (pe_callB (cr_maxT rfl (hu_of hr)) (by rfl) T.m_max (by decide +kernel) (pa_cons (pv 2) pa_nil)) pe_int (nomark _))))))
      (pss_cons (ps_par (i := 6) (j := 7) (by rfl) sc__law_step.nd rfl rfl (by decide) rfl rfl (pa_cons (pe_bm PySem.F.plainAttrs_list PySem.F.slot_list_index PySem.F.type_list_index (mt_indexD (u65 hr)) (pv 2) (pa_cons (pe_callB (cr_maxT rfl (hu_of hr)) (by rfl) T.m_max (by decide +kernel) (pa_cons (pv 2) pa_nil)) pa_nil)) (pa_cons (pe_bm PySem.F.plainAttrs_list PySem.F.slot_list_index PySem.F.type_list_index (mt_indexD (u65 hr)) (pv 2) (pa_cons pe_int pa_nil)) pa_nil)) (by rfl))
      (pss_one (ps_set (i := 2) sc__law_step.nd rfl (Or.inl rfl) (pe_c C__law_put hr (by rfl) (pa_cons (pe_c C__law_put hr (by rfl) (pa_cons (pv 2) (pa_cons (pv 6) (pa_cons (pe_un un_neg pe_int) pa_nil)))) (pa_cons (pv 7) (pa_cons pe_int pa_nil))))))))
      (pss_one (ps_ret (pe_tup (pa_cons (pv 2) (pa_cons (pv 4) pa_nil)))))))), ?_⟩
    refine ⟨fun σ H1 => Ex H H1 ∧ ∃ (p : Addr) (wd : Str) (v5 : Option V), σ = [some hv, some rv, some (.ref p), some mv, some (.str wd), v5, none, none] ∧ SqT K H1 p (rowV (step hl.r R x m).1) ∧ decide (V.str wd = V.str "away") = (step hl.r R x m).2, ?_, ?_⟩
    · rcases mv_cases hm with ⟨o, rfl, ho⟩ | ⟨k, rfl, hk⟩ | rfl
      · obtain ⟨ma, pa, rfl, g1, g2⟩ := hM
        have hc := sent_lt n0 rok vl ho
        refine ⟨_, rfl, _, _, _, _, rfl, rfl, g1, rfl, rfl, _, rfl, ?_⟩
        rw [dT]
        refine iteT ⟨_, rfl, _, rfl, _, rfl, _, rfl, _, _, _, _, rfl, rfl, g1, rfl, rfl, _, _, _, _, hl, R, x, o, rfl, ok, hH, hR, ⟨la, rfl, hx⟩, ⟨pa, rfl, g2⟩, rok, vl, ho, fun H1 e1 => ?_⟩
        generalize ec : sent hl.r R x o = c at *
        obtain ⟨ha, co, se, sv, sp, rfl, h1, h2, h3, h4⟩ := hH.ex e1
        have hx1 := Evl.ex_t e1 hx
        refine ⟨_, rfl, _, rfl, _, _, _, _, rfl, rfl, hx1, row_at (by omega), _, rfl, _, _, _, _, rfl, rfl, h1, rfl, _, rfl, _, _, _, _, rfl, rfl, h2, rep_atz rfl hc, _, _, _, _, rfl, rfl, h3, rfl, rfl, _, rfl, ?_⟩
        have es : step hl.r R x (.come o) = comeAt hl.r x c := by rw [← ec]; rfl
        have ed : decide (V.int ((x.getD c 0 : Nat) : Int) = V.int (hl.r : Int)) = decide (x.getD c 0 = hl.r) := decide_eq_decide.mpr ⟨fun z => by injection z with z; omega, fun z => by rw [z]⟩
        rw [ed, es]
        by_cases z : x.getD c 0 = hl.r
        · rw [decide_eq_true z, show comeAt hl.r x c = (x, true) from if_pos z]
          refine iteT ⟨_, rfl, _, rfl, _, rfl, rfl, .inr ⟨_, rfl, rfl, _, x, c, 0, x.getD c 0, rfl, ⟨la, rfl, hx1⟩, by omega, by omega, by omega, fun v H2 e2 hv => ?_⟩⟩
          obtain ⟨p, rfl, hp⟩ := hv
          rw [set_self (by omega)] at hp
          exact ⟨e1.trans e2, p, "away", _, rfl, hp, show decide (V.str "away" = V.str "away") = true by decide +kernel⟩
        · rw [decide_eq_false z, show comeAt hl.r x c = (x.set c (x.getD c 0 + 1), false) from if_neg z]
          refine iteF ⟨_, rfl, _, rfl, _, rfl, rfl, .inr ⟨_, rfl, rfl, _, x, c, 1, x.getD c 0 + 1, rfl, ⟨la, rfl, hx1⟩, by omega, by omega, by omega, fun v H2 e2 hv => ?_⟩⟩
          obtain ⟨p, rfl, hp⟩ := hv
          exact ⟨e1.trans e2, p, "taken", _, rfl, hp, show decide (V.str "taken" = V.str "away") = false by decide +kernel⟩
      · obtain ⟨ma, rfl, g1⟩ := hM
        refine ⟨_, rfl, _, _, _, _, rfl, rfl, g1, rfl, rfl, _, rfl, ?_⟩
        rw [show decide (V.str "done" = V.str "come") = false by decide +kernel]
        refine iteF ⟨_, rfl, _, _, _, _, rfl, rfl, g1, rfl, rfl, _, rfl, ?_⟩
        rw [dT]
        refine iteT ⟨_, rfl, _, rfl, _, _, _, _, rfl, rfl, g1, rfl, _, _, _, _, rfl, rfl, hx, row_at (by omega), _, _, rfl, rfl, _, rfl, ite2 (fun c => ?_) (fun c => ?_)⟩
        · have z : 0 < x.getD k 0 := by have := of_decide_eq_true c; omega
          rw [show step hl.r R x (.done k) = (x.set k (x.getD k 0 - 1), false) from by show (doneAt x k, false) = _; rw [doneAt, if_pos z]]
          refine ⟨_, rfl, _, rfl, _, _, _, _, rfl, rfl, g1, rfl, _, rfl, rfl, _, x, k, -1, x.getD k 0 - 1, rfl, ⟨la, rfl, hx⟩, by omega, by omega, by omega, fun v H2 e2 hv => ?_⟩
          obtain ⟨p, rfl, hp⟩ := hv
          exact ⟨e2, p, "served", _, rfl, hp, show decide (V.str "served" = V.str "away") = false by decide +kernel⟩
        · have z : ¬ 0 < x.getD k 0 := fun z => c (decide_eq_true (by omega))
          rw [show step hl.r R x (.done k) = (x, false) from by show (doneAt x k, false) = _; rw [doneAt, if_neg z]]
          exact ⟨Evl.Ex.refl H, la, "none", none, rfl, hx, show decide (V.str "none" = V.str "away") = false by decide +kernel⟩
      · obtain ⟨ma, rfl, g1⟩ := hM
        refine ⟨_, rfl, _, _, _, _, rfl, rfl, g1, rfl, rfl, _, rfl, ?_⟩
        rw [show decide (V.str "still" = V.str "come") = false by decide +kernel]
        refine iteF ⟨_, rfl, _, _, _, _, rfl, rfl, g1, rfl, rfl, _, rfl, ?_⟩
        rw [show decide (V.str "still" = V.str "done") = false by decide +kernel]
        exact iteF ⟨Evl.Ex.refl H, la, "none", none, rfl, hx, show decide (V.str "none" = V.str "away") = false by decide +kernel⟩
    · rintro σ H1 ⟨e1, p, wd, v5, rfl, hp, hwd⟩
      obtain ⟨ha, co, se, sv, sp, rfl, h1, h2, h3, h4⟩ := hH.ex e1
      refine ⟨fun m σ H' => m = 0 ∧ H' = H1 ∧ σ = [some (.ref ha), some rv, some (.ref p), some mv, some (.str wd), v5, none, none], ⟨0, rfl, rfl, rfl⟩, ?_⟩
      rintro m σ H' ⟨rfl, rfl, rfl⟩
      refine ⟨_, rfl, _, _, _, _, rfl, rfl, h1, rfl, false, rfl, iteF ?_⟩
      refine ⟨_, rfl, _, rfl, by show 2 ≤ sizeLine; decide, fun a ha' => ?_⟩
      exact q a _ (e1.trans (Evl.Ex.new ha')) ⟨p, wd, SqT.of upd_same, Evl.ex_t (Evl.Ex.new ha') hp, hwd⟩
def sp__law_both (_ : Program) (_ : World) (K : PySem.W.Frag) : Sp := Pm 5 fun vs H Q => ∃ (hv ov qv tv mv : V) (hl : Hl) (R S : Rl) (t : Tr) (m : Mv), vs = [hv, ov, qv, tv, mv] ∧ HlOk hl ∧ HallAt K H hv hl ∧ RuleAt K H ov R ∧ RuleAt K H qv S ∧ TrAt K H tv t ∧ MvAt K H mv m ∧
  RlOk hl.n hl.r R ∧ RlOk hl.n hl.r S ∧ Vl hl.n hl.r t.1 ∧ Vl hl.n hl.r t.2.1 ∧ m ∈ moves hl.n ∧ ∀ v H', Ex H H' → TrAt K H' v (both hl.r R S t m) → Q v H'
/-! ### _law_both -/
abbrev N_sc__law_both : List Str := ["_law_hall", "_law_one", "_law_other", "_law_triple", "_law_move", "_law_x", "_law_first", "_law_y", "_law_second"]
theorem sc__law_both : FnScope N_sc__law_both ["_law_hall", "_law_one", "_law_other", "_law_triple", "_law_move"] (defScope s__law_both) := ⟨rfl, rfl, rfl, by decide +kernel, rfl, by decide +kernel, by decide +kernel⟩
theorem cl__law_both {f : Addr} {fd : FuncData} (T : Tx K mg) (F : FnP K "_law_both" "_law_both" s__law_both f fd) (m : mg "_law_both" = some (.ref f)) (C__law_kept : Clb P w K mg base "_law_kept" 1 ["_law_hall", "_law_lines"] (sp__law_kept P w K)) (C__law_step : Clb P w K mg base "_law_step" 3 ["_law_hall", "_law_rule", "_law_lines", "_law_move"] (sp__law_step P w K)) :
    Clb P w K mg base "_law_both" 4 ["_law_hall", "_law_one", "_law_other", "_law_triple", "_law_move"] (sp__law_both P w K) := by
    refine clb_of m F (F.bindsN fun _ _ _ _ _ _ us hl => match us, hl with | [_, _, _, _, _], _ => rfl) (F.ok sc__law_both (fun _ _ _ _ h => by exact pm_len h) (fun cdv A outer s H vs Q E hr h => ?_))
    obtain ⟨_, hv, ov, qv, tv, mv, hl, R, S, t, m, rfl, ok, hH, hR, hS, ⟨a, p, r, rfl, h1, h2, h3⟩, hM, rok, sok, vx, vy, hm, q⟩ := h
    have n0 := ok.n0
    have n4 := ok.n4
    refine ⟨_, PSs.nox (pss_cons (ps_asg (pe_c C__law_step hr (by rfl) (pa_cons (pv 0) (pa_cons (pv 1) (pa_cons (pe_ix (ixT K) (pv 3) pe_int (fun _ _ => rfl)) (pa_cons (pv 4) pa_nil))))) (pg_tupQ (n := 2) K rfl (pgs_cons (pg_name (i := 5) sc__law_both.nd rfl (Or.inl rfl)) (pgs_cons (pg_name (i := 6) sc__law_both.nd rfl (Or.inl rfl)) pgs_nil))))
      (pss_cons (ps_asg (pe_c C__law_step hr (by rfl) (pa_cons (pv 0) (pa_cons (pv 2) (pa_cons (pe_ix (ixT K) (pv 3) pe_int (fun _ _ => rfl)) (pa_cons (pv 4) pa_nil))))) (pg_tupQ (n := 2) K rfl (pgs_cons (pg_name (i := 7) sc__law_both.nd rfl (Or.inl rfl)) (pgs_cons (pg_name (i := 8) sc__law_both.nd rfl (Or.inl rfl)) pgs_nil))))
      (pss_one (ps_ret (pe_tup (pa_cons (pe_c C__law_kept hr (by rfl) (pa_cons (pv 0) (pa_cons (pv 5) pa_nil))) (pa_cons (pe_c C__law_kept hr (by rfl) (pa_cons (pv 0) (pa_cons (pv 7) pa_nil))) (pa_cons (pe_op op_sub (pe_op op_add (pe_ix (ixT K) (pv 3) pe_int (fun _ _ => rfl)) (pe_callTy call_int1 (by rfl) T.m_int (by decide +kernel) (pa_cons (pe_cmpR op_eq (pv 8) pe_str (nomark _)) pa_nil))) (pe_callTy call_int1 (by rfl) T.m_int (by decide +kernel) (pa_cons (pe_cmpR op_eq (pv 6) pe_str (nomark _)) pa_nil))) pa_nil)))))))), ?_⟩
    refine ⟨_, rfl, _, rfl, _, rfl, _, _, _, _, rfl, rfl, h1, rfl, _, rfl, rfl, _, _, _, _, hl, R, t.1, m, rfl, ok, hH, hR, ⟨p, rfl, h2⟩, hM, rok, vx, hm, fun b H2 e2 hb => ?_⟩
    obtain ⟨x2, w1, hb1, hb2, hb3⟩ := hb
    refine ⟨b, _, rfl, hb1, rfl, _, _, rfl, _, _, rfl, rfl, ?_⟩
    refine ⟨_, rfl, _, rfl, _, rfl, _, _, _, _, rfl, rfl, Evl.ex_t e2 h1, rfl, _, rfl, rfl, _, _, _, _, hl, S, t.2.1, m, rfl, ok, hH.ex e2, hS.ex e2, ⟨r, rfl, Evl.ex_t e2 h3⟩, hM.ex e2, sok, vy, hm, fun c H4 e4 hc => ?_⟩
    obtain ⟨y2, w2, hc1, hc2, hc3⟩ := hc
    have e24 := e2.trans e4
    refine ⟨c, _, rfl, hc1, rfl, _, _, rfl, _, _, rfl, rfl, ?_⟩
    refine ⟨_, rfl, _, rfl, rfl, _, _, hl, _, rfl, ok, hH.ex e24, ⟨x2, rfl, Evl.ex_t e4 hb2⟩, by rw [(step_vl n0 rok vx hm).1]; omega, fun u H5 e5 hu => ?_⟩
    refine ⟨_, rfl, _, rfl, rfl, _, _, hl, _, rfl, ok, hH.ex (e24.trans e5), ⟨y2, rfl, Evl.ex_t e5 hc2⟩, by rw [(step_vl n0 sok vy hm).1]; omega, fun v H6 e6 hv => ?_⟩
    obtain ⟨u1, rfl, hu1⟩ := hu
    obtain ⟨v1, rfl, hv1⟩ := hv
    have e26 := (e24.trans e5).trans e6
    refine ⟨_, rfl, _, _, _, _, rfl, rfl, Evl.ex_t e26 h1, rfl, _, rfl, rfl, .inr ⟨_, rfl, _, _, rfl, rfl, _, rfl, rfl, .inr ⟨_, rfl, _, _, rfl, rfl, by show 3 ≤ sizeLine; decide, fun d hd => ?_⟩⟩⟩
    have e7 := Evl.Ex.new (o := .tup [.ref u1, .ref v1, .int (both hl.r R S t m).2.2]) hd
    have ez : t.2.2 + (if decide (V.str w2 = V.str "away") = true then (1 : Int) else 0) - (if decide (V.str w1 = V.str "away") = true then (1 : Int) else 0) = (both hl.r R S t m).2.2 := by
      rw [hc3, hb3, b2n_if, b2n_if]
      rfl
    have key : ∀ z : Int, z = (both hl.r R S t m).2.2 → Q (.ref d) (upd H6 d (.tup [.ref u1, .ref v1, .int z])) := fun z hz => by
      subst hz
      exact q _ _ (e26.trans e7) ⟨d, u1, v1, rfl, SqT.of upd_same, Evl.ex_t (e6.trans e7) hu1, Evl.ex_t e7 hv1⟩
    exact key _ ez
end
end K58
set_option Elab.async false
set_option linter.all false
set_option maxRecDepth 100000
set_option maxHeartbeats 4000000
set_option autoImplicit false
namespace K58
open PySem PySem.Spec PyProof.Rows L2
open Evl (Ex)
section
variable {P : Program} {w : World} {K : PySem.W.Frag} {mg : Str → Option Value} {base : Heap}
theorem SpeedAt.tu {H H' : Hp} {v : V} {t b : Nat} (e : Tu K H H') (h : SpeedAt K H v t b) : SpeedAt K H' v t b := by
  obtain ⟨a, rfl, h⟩ := h
  exact ⟨a, rfl, e _ _ h⟩
theorem TapeAt.tu {H H' : Hp} {d S : Addr} (h : TapeAt H d S) (b : But [d] H H') : Tu K H H' := fun a xs z => by
  obtain ⟨ns, turn, left, h1, h2, h3⟩ := h
  have n : ∀ ys, Rd H a (.tup ys) → a ∉ [d] := fun ys q e => by
    have : a = d := List.mem_singleton.mp e
    subst this
    exact notT h1 (fun _ z => nomatch z) (fun _ _ z => nomatch z) _ q
  rcases z with z | z
  · have := n _ z
    rcases z with z | ⟨oo, z⟩
    · exact .inl (.inl (b _ _ this z))
    · exact .inl (.inr ⟨oo, b _ _ this z⟩)
  · exact .inr z
def sp__law_is_never (_ : Program) (_ : World) (K : PySem.W.Frag) : Sp := Pm 3 fun vs H Q => ∃ (hv ov qv : V) (hl : Hl) (R S : Rl) (I : Tr → Prop), vs = [hv, ov, qv] ∧ HlOk hl ∧ HallAt K H hv hl ∧ RuleAt K H ov R ∧ RuleAt K H qv S ∧ RlOk hl.n hl.r R ∧ RlOk hl.n hl.r S ∧ Good hl.n hl.r R S I ∧
  ∀ H', Ex H H' → Q (.bl true) H'
/-! ### _law_is_never -/
abbrev N_sc__law_is_never : List Str := ["_law_hall", "_law_one", "_law_other", "_law_told"]
theorem sc__law_is_never : FnScope N_sc__law_is_never ["_law_hall", "_law_one", "_law_other"] (defScope s__law_is_never) := ⟨rfl, rfl, rfl, by decide +kernel, rfl, by decide +kernel, by decide +kernel⟩
theorem cl__law_is_never {f : Addr} {fd : FuncData} (T : Tx K mg) (F : FnP K "_law_is_never" "_law_is_never" s__law_is_never f fd) (m : mg "_law_is_never" = some (.ref f)) (C_lets_never : Clb P w K mg base "lets_never" 11 ["hall", "one", "other", "thing"] (sp_lets_never P w K)) (C_never_worse : Clb P w K mg base "never_worse" 12 ["hall", "one", "other"] (sp_never_worse P w K)) :
    Clb P w K mg base "_law_is_never" 13 ["_law_hall", "_law_one", "_law_other"] (sp__law_is_never P w K) := by
    refine clb_of m F (F.bindsN fun _ _ _ _ _ _ us hl => match us, hl with | [_, _, _], _ => rfl) (F.ok sc__law_is_never (fun _ _ _ _ h => by exact pm_len h) (fun cdv A outer s H vs Q E hr h => ?_))
    obtain ⟨_, hv, ov, qv, hl, R, S, I, rfl, ok, hH, hR, hS, rok, sok, g, q⟩ := h
    refine ⟨_, PSs.nox (pss_cons (ps_set (i := 3) sc__law_is_never.nd rfl (Or.inl rfl) (pe_c C_never_worse hr (by rfl) (pa_cons (pv 0) (pa_cons (pv 1) (pa_cons (pv 2) pa_nil)))))
      (pss_one (ps_ret (pe_and (pe_cmpR op_eq (pe_ix (ixT K) (pv 3) pe_int (fun _ _ => rfl)) pe_str (nomark _)) (pe_one (pe_cmpR op_is_bl (pe_c C_lets_never hr (by rfl) (pa_cons (pv 0) (pa_cons (pv 1) (pa_cons (pv 2) (pa_cons (pe_ix (ixT K) (pv 3) pe_int (fun _ _ => rfl)) pa_nil))))) pe_bl (nomark _))))))), ?_⟩
    refine ⟨_, rfl, _, rfl, _, rfl, rfl, _, _, _, hl, R, S, rfl, ok, hH, hR, hS, rok, sok, fun a b t H1 e1 hr hw hq => absurd hw (g.well t (g.reach hr)), fun a b ps H1 e1 hq hp pok hlen => ?_⟩
    refine ⟨_, rfl, _, _, _, _, rfl, rfl, hq, rfl, rfl, _, rfl, ?_⟩
    rw [dT]
    exact iteT ⟨_, rfl, _, rfl, _, rfl, _, rfl, _, _, _, _, rfl, rfl, hq, rfl, rfl, _, _, _, _, hl, R, S, ps, rfl, ok, hH.ex e1, hR.ex e1, hS.ex e1, hp, rok, sok, pok, hlen, fun H2 e2 => ⟨_, _, rfl, rfl, q _ (e1.trans e2)⟩⟩
theorem But.tu {ds : List Addr} {H H' : Hp} (b : But ds H H') (hn : ∀ d ∈ ds, ∀ xs, ¬ Rd H d (.tup xs)) : Tu K H H' := fun a xs z => by
  have n : ∀ ys, Rd H a (.tup ys) → a ∉ ds := fun ys q e => hn a e ys q
  rcases z with z | z
  · have := n _ z
    rcases z with z | ⟨oo, z⟩
    · exact .inl (.inl (b _ _ this z))
    · exact .inl (.inr ⟨oo, b _ _ this z⟩)
  · exact .inr z
theorem first_ix {m : Nat} : ∀ {x : List Nat}, m ∈ x → ∃ j : Nat, x[j]? = some m ∧ ∀ (i y : Nat), i < j → x[i]? = some y → y ≠ m
  | a :: x, h => by
    by_cases e : a = m
    · exact ⟨0, by rw [e]; rfl, fun i y hi => absurd hi (Nat.not_lt_zero _)⟩
    · obtain ⟨j, h1, h2⟩ := first_ix (x := x) (by rcases List.mem_cons.mp h with z | z; exact absurd z.symm e; exact z)
      refine ⟨j + 1, by rw [List.getElem?_cons_succ]; exact h1, fun i y hi hy => ?_⟩
      cases i with
      | zero => simp at hy; omega
      | succ i => exact h2 i y (by omega) (by rw [List.getElem?_cons_succ] at hy; exact hy)
def sp__law_told_rule (_ : Program) (_ : World) (K : PySem.W.Frag) : Sp := Pm 2 fun vs H Q => ∃ (d S : Addr) (hv : V) (hl : Hl), vs = [.ref d, hv] ∧ TapeAt H d S ∧ HlOk hl ∧ HallAt K H hv hl ∧
  ∀ v R H', But [d] H H' → TapeAt H' d S → RuleAt K H' v R → RlOk hl.n hl.r R → Q v H'
/-! ### _law_told_rule -/
abbrev N_sc__law_told_rule : List Str := ["_law_tape_here", "_law_hall", "_law_way", "_law_places", "_law_lines", "_law_speed", "_law_room", "_law_longest"]
theorem sc__law_told_rule : FnScope N_sc__law_told_rule ["_law_tape_here", "_law_hall"] (defScope s__law_told_rule) := ⟨rfl, rfl, rfl, by decide +kernel, rfl, by decide +kernel, by decide +kernel⟩
theorem cl__law_told_rule {f : Addr} {fd : FuncData} (T : Tx K mg) (F : FnP K "_law_told_rule" "_law_told_rule" s__law_told_rule f fd) (m : mg "_law_told_rule" = some (.ref f)) (C__law_all_lines : Clb P w K mg base "_law_all_lines" 1 ["_law_rooms"] (sp__law_all_lines P w K)) (C__law_draw : Clb P w K mg base "_law_draw" 1 ["_law_tape_here", "_law_many"] (sp__law_draw P w K)) :
    Clb P w K mg base "_law_told_rule" 2 ["_law_tape_here", "_law_hall"] (sp__law_told_rule P w K) := by
    refine clb_of m F (F.bindsN fun _ _ _ _ _ _ us hl => match us, hl with | [_, _], _ => rfl) (F.ok sc__law_told_rule (fun _ _ _ _ h => by exact pm_len h) (fun cdv A outer s H vs Q E hr h => ?_))
    obtain ⟨_, d, S, hv, hl, rfl, hd, ok, ⟨ha, co, se, sv, sp, rfl, h1, h2, h3, h4⟩, q⟩ := h
    have n0 := ok.n0
    have n4 := ok.n4
    have r4 := ok.r4
    refine ⟨_, PSs.nox (pss_cons (ps_set (i := 2) sc__law_told_rule.nd rfl (Or.inl rfl) (pe_c C__law_draw hr (by rfl) (pa_cons (pv 0) (pa_cons pe_int pa_nil))))
      (pss_cons (ps_set (i := 3) sc__law_told_rule.nd rfl (Or.inl rfl) (pe_lst pa_nil))
      (pss_cons (ps_for PassesOwn.never rfl (pi_list (pe_c C__law_all_lines hr (by rfl) (pa_cons (pe_lc (own := [("_law_speed", 5), ("_law_room", 6)]) rfl sc__law_told_rule.nd (pi_tup (pe_ix (ixT K) (pv 1) pe_int (fun _ _ => rfl))) (blkOk_by (own := [("_law_speed", 5), ("_law_room", 6)]) (N := N_sc__law_told_rule) (sc := defScope s__law_told_rule) (by decide +kernel)) (fun _ _ _ _ _ => pg_tupQ (n := 2) K rfl (pgs_cons (pg_name (i := 5) sc__law_told_rule.nd rfl (Or.inl rfl)) (pgs_cons (pg_name (i := 6) sc__law_told_rule.nd rfl (Or.inl rfl)) pgs_nil))) (fun _ _ _ _ _ => pts_nil) (fun _ _ _ _ _ => (pv 6))) pa_nil))) (pg_name (i := 4) sc__law_told_rule.nd rfl (Or.inl rfl))
      (pss_cons (ps_set (i := 7) sc__law_told_rule.nd rfl (Or.inl rfl) (pe_bm PySem.F.plainAttrs_list PySem.F.slot_list_index PySem.F.type_list_index (mt_indexD (u65 hr)) (pe_callTy call_list_of (by rfl) T.m_list (by decide +kernel) (pa_cons (pv 4) pa_nil)) (pa_cons (pe_callB (cr_maxT rfl (hu_of hr)) (by rfl) T.m_max (by decide +kernel) (pa_cons (pv 4) pa_nil)) pa_nil)))
      (pss_one (ps_expr (pe_bm PySem.F.plainAttrs_list PySem.F.slot_list_append PySem.F.type_list_append mt_append (pv 3) (pa_cons (pe_ix (ixL K) (pe_lst (pa_cons (pe_c C__law_draw hr (by rfl) (pa_cons (pv 0) (pa_cons (pe_callB (lenQ K) (by rfl) T.m_len PySem.boot_len (pa_cons (pv 4) pa_nil)) pa_nil))) (pa_cons pe_int (pa_cons (pv 7) pa_nil)))) (pv 2) (fun _ _ => rfl)) pa_nil))))))
      (pss_one (ps_ret (pe_tup (pa_cons pe_str (pa_cons (pe_callTy call_tuple_of (by rfl) T.m_tuple (by decide +kernel) (pa_cons (pv 3) pa_nil)) pa_nil)))))))), ?_⟩
    refine ⟨_, rfl, rfl, d, S, 3, rfl, hd, by decide, by decide, fun way H1 hway b1 t1 => ?_⟩
    have tu1 : Tu K H H1 := hd.tu b1
    have g1 := tu1 _ _ h1
    have g2 := tu1 _ _ h2
    have g3 := tu1 _ _ h3
    refine ⟨Nat.zero_le _, fun D hD => ?_⟩
    have e2 := Evl.Ex.new (o := .lst []) hD
    refine ⟨_, rfl, _, _, _, _, rfl, rfl, Evl.ex_t e2 g1, rfl, se, rfl, ⟨_, Evl.ex_t e2 g2⟩, fun D2 hD2 => lc_tup (K := K) (a := se) (xs := List.replicate hl.n (.ref sv)) (fun i H' => Ex (upd H1 D (.lst [])) H' ∧ H' D2 = some (.lst (List.replicate i (.int hl.r)))) ⟨Evl.Ex.new hD2, upd_same⟩ (fun i H' _ h => Evl.ex_t (e2.trans h.1) g2) ?_ ?_⟩
    · rintro i v H' hi ⟨e, hD'⟩
      have hin : i < hl.n := by have := (List.getElem?_eq_some_iff.mp hi).1; rw [List.length_replicate] at this; exact this
      obtain rfl := rep_v hi
      refine ⟨sv, _, rfl, Evl.ex_t (e2.trans e) g3, rfl, _, _, rfl, _, _, rfl, rfl, rfl, ?_⟩
      dsimp only [tYes]
      refine iteT ⟨_, rfl, _, hD', ?_, Evl.Ex.mut e hD2, ?_⟩
      · rw [List.length_replicate, sizeLine_eq]; omega
      · rw [upd_same, List.replicate_succ']
    · rintro H2 ⟨e3, hD2'⟩
      rw [List.length_replicate] at hD2'
      refine ⟨rfl, D2, hl.n, hl.r, rfl, SqL.of hD2', n4, r4, fun p H3 hp e4 hls => ?_⟩
      obtain ⟨vs, hvs, hall⟩ := hls
      have hD3 : H3 D = some (.lst []) := (e3.trans e4) _ _ upd_same
      have t3 : TapeAt H3 d S := t1.ex (e2.trans (e3.trans e4))
      have hdD : d ≠ D := by
        obtain ⟨ns, turn, left, q1, _⟩ := t1
        exact ne_of_none q1 hD
      have hSD : S ≠ D := by
        obtain ⟨ns, turn, left, _, q2, _⟩ := t1
        exact ne_of_none q2 hD
      have hpd : p ∉ [d, D] := by
        obtain ⟨ns, turn, left, q1, _⟩ := t3
        intro z
        rcases List.mem_cons.mp z with z | z
        · subst z; rw [hvs] at q1; cases q1
        · have := List.mem_singleton.mp z
          subst this
          rw [(e3 _ _ upd_same)] at hp
          cases hp
      have hnt : ∀ a ∈ [d, D], ∀ xs, ¬ Rd H3 a (.tup xs) := fun a ha => by
        obtain ⟨ns, turn, left, q1, _⟩ := t3
        rcases List.mem_cons.mp ha with z | z
        · subst z; exact notT q1 (fun _ z => nomatch z) (fun _ _ z => nomatch z)
        · have := List.mem_singleton.mp z
          subst this
          exact notT hD3 (fun _ z => nomatch z) (fun _ _ z => nomatch z)
      refine ⟨p, rfl, ⟨vs, SqL.of hvs⟩, for_list (K := K) (a := p) (xs := vs)
        (fun i σ H' => But [d, D] H3 H' ∧ TapeAt H' d S ∧ ∃ (ps : List Nat) (v4 v7 : Option V), σ = [some (.ref d), some (.ref ha), some (.int (way : Nat)), some (.ref D), v4, none, none, v7] ∧ H' D = some (.lst (rowV ps)) ∧ ps.length = i ∧ ∀ k ∈ ps, k < hl.n)
        ⟨But.refl _ _, t3, [], none, none, rfl, hD3, rfl, fun k hk => nomatch hk⟩ (fun i σ H' _ h => SqL.of (h.1 _ _ hpd hvs)) ?_ ?_⟩
      · rintro i v σ H' hi ⟨b4, t4, ps, v4, v7, rfl, hD4, hpl, hpn⟩
        obtain ⟨x, hx, ⟨xa, rfl, hxa⟩⟩ := hall.get hi
        have vx := lins_mem.mp (List.mem_of_getElem? hx)
        have hil := (List.getElem?_eq_some_iff.mp hx).1
        have hl625 := lins_small (r := hl.r) (i := hl.n) r4 n4
        have tu4 : Tu K H3 H' := b4.tu hnt
        have hxa4 := tu4 _ _ hxa
        have vlen := vx.1
        refine ⟨_, rfl, xa, _, rfl, .inr hxa4, fun l hl' => ?_⟩
        have e5 := Evl.Ex.new (o := .lst (rowV x)) hl'
        refine ⟨.inl ⟨rfl, _, SqL.of upd_same⟩, _, rfl, xa, x.map (fun n : Nat => (n : Int)), rfl, by rw [← rowV_ints]; exact Evl.ex_t e5 hxa4, by intro z; rw [List.map_eq_nil_iff] at z; rw [z] at vlen; simp at vlen; omega, fun m hm _ => ?_⟩
        obtain ⟨m, hm', rfl⟩ := List.mem_map.mp hm
        obtain ⟨j, hj1, hj2⟩ := first_ix hm'
        have hjn : j < hl.n := by have := (List.getElem?_eq_some_iff.mp hj1).1; omega
        refine ⟨l, _, .int (m : Int), (x.map fun n : Nat => (n : Int)).map .int, j, .int (m : Int), rfl, rfl, dp_list (by rw [upd_same, rowV_ints]), .int _, shaped_list _, rfl, by rw [List.getElem?_map, List.getElem?_map, hj1]; rfl, SeqAt.eqv_refl _ rfl, fun i z' hi hz => ?_, ?_⟩
        · rw [List.getElem?_map, List.getElem?_map] at hz
          cases hy : x[i]? with
          | none => rw [hy] at hz; cases hz
          | some y =>
            rw [hy] at hz
            cases hz
            have := hj2 i y hi hy
            refine Bool.eq_false_iff.mpr fun z => ?_
            simp [PyData.eqv] at z
            omega
        · have t5 := t4.ex e5
          have hD5 := e5 _ _ hD4
          refine ⟨_, rfl, .inl ⟨rfl, _, SqL.of hD5⟩, _, rfl, _, rfl, _, _, rfl, .inr (Evl.ex_t e5 hxa4), rfl, d, S, (rowV x).length, rfl, t5, by rw [rowV_len]; omega, by rw [rowV_len]; omega, fun r H6 hr6 b6 t6 => ?_⟩
          rw [rowV_len] at hr6
          have hD6 := b6 D _ (fun z => hdD (List.mem_singleton.mp z).symm) hD5
          refine ⟨_, rfl, by show 3 ≤ sizeLine; decide, fun q1 hq1 => ?_⟩
          have e7 := Evl.Ex.new (o := .lst [.int (r : Nat), .int 0, .int (j : Nat)]) hq1
          obtain ⟨k, hk, hat⟩ : ∃ k : Nat, k < hl.n ∧ atI [V.int (r : Nat), V.int 0, V.int (j : Nat)] (way : Int) = some (.int (k : Nat)) := by
            rcases (show way = 0 ∨ way = 1 ∨ way = 2 by omega) with z | z | z <;> subst z
            · exact ⟨r, by omega, rfl⟩
            · exact ⟨0, n0, rfl⟩
            · exact ⟨j, hjn, rfl⟩
          have hD7 := e7 _ _ hD6
          refine ⟨_, rfl, q1, _, _, _, rfl, rfl, SqL.of upd_same, hat, D, _, _, rfl, rfl, hD7, ?_, ?_⟩
          · rw [rowV_len, sizeLine_eq]; omega
          · refine ⟨?_, ?_, ps ++ [k], _, _, rfl, ?_, ?_, ?_⟩
            · intro a o ha ho
              have : a ∉ [d] := fun z => ha (List.mem_cons.mpr (.inl (List.mem_singleton.mp z)))
              have aD : a ≠ D := fun z => ha (by rw [z]; simp)
              rw [upd_ne aD]
              exact e7 _ _ (b6 _ _ this (e5 _ _ (b4 _ _ ha ho)))
            · obtain ⟨ns, turn, left, q1', q2', q3'⟩ := t6.ex e7
              exact ⟨ns, turn, left, by rw [upd_ne hdD]; exact q1', by rw [upd_ne hSD]; exact q2', q3'⟩
            · rw [upd_same, rowV_app]; rfl
            · rw [List.length_append, hpl]; rfl
            · intro k' hk'
              rcases List.mem_append.mp hk' with z | z
              · exact hpn _ z
              · rw [List.mem_singleton.mp z]; exact hk
      · rintro σ H' ⟨b4, t4, ps, v4, v7, rfl, hD4, hpl, hpn⟩
        rw [hall.len, lins_len] at hpl
        refine ⟨_, rfl, D, _, rfl, .inl ⟨SqL.of hD4, fun l hl' => ⟨by show 2 ≤ sizeLine; decide, fun q1 hq1 => ?_⟩⟩⟩
        have e5 := Evl.Ex.new (o := .tup (rowV ps)) hl'
        have e6 := Evl.Ex.new (o := .tup [.str "told", .ref l]) hq1
        refine q _ (.told ps) _ ?_ (t4.ex (e5.trans e6)) ⟨q1, l, rfl, SqT.of upd_same, Evl.ex_t e6 (SqT.of upd_same)⟩ ⟨hpl, hpn⟩
        intro a o ha ho
        have h1' := b1 _ _ ha ho
        have : a ≠ D := ne_of_none h1' hD
        refine (e5.trans e6) _ _ (b4 _ _ ?_ ((e2.trans (e3.trans e4)) _ _ h1'))
        intro z
        rcases List.mem_cons.mp z with z | z
        · exact ha (List.mem_singleton.mpr z)
        · exact this (List.mem_singleton.mp z)
end
end K58
set_option Elab.async false
set_option linter.all false
set_option maxRecDepth 100000
set_option maxHeartbeats 4000000
set_option autoImplicit false
namespace K58
open PySem PySem.Spec PyProof.Rows L2
open Evl (Ex)
section
variable {P : Program} {w : World} {K : PySem.W.Frag} {mg : Str → Option Value} {base : Heap}
def sp__law_alike_hall (_ : Program) (_ : World) (K : PySem.W.Frag) : Sp := Pm 2 fun vs H Q => ∃ (d S : Addr), vs = [.ref d, .int 27] ∧ TapeAt H d S ∧
  ∀ v hl H', But [d] H H' → TapeAt H' d S → HlOk hl → HallAt K H' v hl → Q v H'
/-! ### _law_alike_hall -/
abbrev N_sc__law_alike_hall : List Str := ["_law_tape_here", "_law_most", "_law_many", "_law_room", "_law_top", "_law_come", "_law_whole"]
theorem sc__law_alike_hall : FnScope N_sc__law_alike_hall ["_law_tape_here", "_law_most"] (defScope s__law_alike_hall) := ⟨rfl, rfl, rfl, by decide +kernel, rfl, by decide +kernel, by decide +kernel⟩
theorem cl__law_alike_hall {f : Addr} {fd : FuncData} (T : Tx K mg) (F : FnP K "_law_alike_hall" "_law_alike_hall" s__law_alike_hall f fd) (m : mg "_law_alike_hall" = some (.ref f)) (C__law_all_lines : Clb P w K mg base "_law_all_lines" 1 ["_law_rooms"] (sp__law_all_lines P w K)) (C__law_draw : Clb P w K mg base "_law_draw" 1 ["_law_tape_here", "_law_many"] (sp__law_draw P w K)) (C__law_frac : Clb P w K mg base "_law_frac" 1 ["_law_top", "_law_bottom"] (sp__law_frac P w K)) :
    Clb P w K mg base "_law_alike_hall" 2 ["_law_tape_here", "_law_most"] (sp__law_alike_hall P w K) := by
    refine clb_of m F (F.bindsN fun _ _ _ _ _ _ us hl => match us, hl with | [_, _], _ => rfl) (F.ok sc__law_alike_hall (fun _ _ _ _ h => by exact pm_len h) (fun cdv A outer s H vs Q E hr h => ?_))
    obtain ⟨_, d, S, rfl, hd, q⟩ := h
    refine ⟨_, PSs.nox (pss_cons (ps_set (i := 2) sc__law_alike_hall.nd rfl (Or.inl rfl) (pe_ix (ixL K) (pe_lst (pa_cons pe_int (pa_cons pe_int (pa_cons pe_int (pa_cons pe_int (pa_cons pe_int (pa_cons pe_int pa_nil))))))) (pe_c C__law_draw hr (by rfl) (pa_cons (pv 0) (pa_cons pe_int pa_nil))) (fun _ _ => rfl)))
      (pss_cons (ps_set (i := 3) sc__law_alike_hall.nd rfl (Or.inl rfl) (pe_op op_add pe_int (pe_c C__law_draw hr (by rfl) (pa_cons (pv 0) (pa_cons pe_int pa_nil)))))
      (pss_cons (ps_while PassesOwn.never (pt_cmpR op_gt (pe_callB (lenQ K) (by rfl) T.m_len PySem.boot_len (pa_cons (pe_c C__law_all_lines hr (by rfl) (pa_cons (pe_op op_rep (pe_lst (pa_cons (pv 3) pa_nil)) (pv 2)) pa_nil)) pa_nil)) (pv 1) (nomark _))
      (pss_one (ps_set (i := 3) sc__law_alike_hall.nd rfl (Or.inl rfl) (pe_op op_sub (pv 3) pe_int))))
      (pss_cons (ps_set (i := 4) sc__law_alike_hall.nd rfl (Or.inl rfl) (pe_op op_add pe_int (pe_c C__law_draw hr (by rfl) (pa_cons (pv 0) (pa_cons pe_int pa_nil)))))
      (pss_cons (ps_set (i := 5) sc__law_alike_hall.nd rfl (Or.inl rfl) (pe_op op_add pe_int (pe_c C__law_draw hr (by rfl) (pa_cons (pv 0) (pa_cons pe_int pa_nil)))))
      (pss_cons (ps_set (i := 6) sc__law_alike_hall.nd rfl (Or.inl rfl) (pe_op op_add (pe_op op_add (pv 5) (pe_op op_mul (pv 2) (pv 4))) (pe_ix (ixL K) (pe_lst (pa_cons pe_int (pa_cons pe_int (pa_cons pe_int pa_nil)))) (pe_c C__law_draw hr (by rfl) (pa_cons (pv 0) (pa_cons pe_int pa_nil))) (fun _ _ => rfl))))
      (pss_one (ps_ret (pe_tup (pa_cons (pe_c C__law_frac hr (by rfl) (pa_cons (pv 5) (pa_cons (pv 6) pa_nil))) (pa_cons (pe_op op_repA (pe_tup (pa_cons (pe_tup (pa_cons (pe_c C__law_frac hr (by rfl) (pa_cons (pv 4) (pa_cons (pv 6) pa_nil))) (pa_cons (pv 3) pa_nil))) pa_nil)) (pv 2)) (pa_cons pe_bl pa_nil)))))))))))), ?_⟩
    have hd0 : ∀ H', TapeAt H' d S → ∀ q1, H' q1 = none → q1 ∉ [d] := fun H' t q1 hq z => by
      obtain ⟨ns, turn, left, h1, _⟩ := t
      rw [List.mem_singleton.mp z, h1] at hq
      cases hq
    refine ⟨by show 6 ≤ sizeLine; decide, fun q1 hq1 => ?_⟩
    have e0 := Evl.Ex.new (o := .lst [.int 2, .int 3, .int 2, .int 1, .int 4, .int 2]) hq1
    refine ⟨_, rfl, rfl, d, S, 6, rfl, hd.ex e0, by decide, by decide, fun r1 H1 hr1 b1 t1 => ?_⟩
    obtain ⟨n, n0, n4, hat⟩ : ∃ n : Nat, 0 < n ∧ n ≤ 4 ∧ atI [V.int 2, .int 3, .int 2, .int 1, .int 4, .int 2] (r1 : Int) = some (.int (n : Nat)) := by
      rcases (show r1 = 0 ∨ r1 = 1 ∨ r1 = 2 ∨ r1 = 3 ∨ r1 = 4 ∨ r1 = 5 by omega) with z | z | z | z | z | z <;> subst z
      · exact ⟨2, by decide, by decide, rfl⟩
      · exact ⟨3, by decide, by decide, rfl⟩
      · exact ⟨2, by decide, by decide, rfl⟩
      · exact ⟨1, by decide, by decide, rfl⟩
      · exact ⟨4, by decide, by decide, rfl⟩
      · exact ⟨2, by decide, by decide, rfl⟩
    refine ⟨q1, _, _, _, rfl, rfl, SqL.of (b1 _ _ (hd0 _ hd _ hq1) upd_same), hat, ?_⟩
    have c1 : But [d] H H1 := (But.ex e0).trans b1
    refine ⟨_, rfl, rfl, d, S, 4, rfl, t1, by decide, by decide, fun r2 H2 hr2 b2 t2 => ⟨_, _, rfl, rfl, ?_⟩⟩
    have c2 := c1.trans b2
    dsimp only
    rw [show (1 : Int) + (r2 : Int) = ((r2 + 1 : Nat) : Int) by omega]
    refine ⟨fun m σ H' => But [d] H H' ∧ TapeAt H' d S ∧ ∃ room : Nat, m = room ∧ 0 < room ∧ room ≤ 4 ∧ σ = [some (.ref d), some (.int 27), some (.int n), some (.int room), none, none, none], ⟨r2 + 1, c2, t2, r2 + 1, rfl, by omega, by omega, rfl⟩, ?_⟩
    rintro m σ H3 ⟨c3, t3, room, rfl, room0, room4, rfl⟩
    refine ⟨_, rfl, by show 1 ≤ sizeLine; decide, fun l hl => ⟨_, rfl, l, _, _, rfl, rfl, upd_same, by omega, by omega, by rw [sizeLine_eq]; simp; omega, fun l2 hl2 => ⟨rfl, l2, n, m, rfl, ?_, n4, room4, fun p H5 hp e5 hls => ?_⟩⟩⟩
    · refine SqL.of ?_
      rw [upd_same, Int.toNat_natCast, List.flatten_replicate_singleton]
    have e4 := Evl.Ex.new (o := .lst [V.int (m : Nat)]) hl
    have e45 := Evl.Ex.new (o := .lst (List.replicate (n : Int).toNat [V.int (m : Nat)]).flatten) hl2
    have e35 := e4.trans (e45.trans e5)
    obtain ⟨vs, hvs, hall⟩ := hls
    have vlen : vs.length = (m + 1) ^ n := by rw [hall.len, lins_len]
    refine ⟨p, vs, rfl, .inl (SqL.of hvs), _, rfl, _, _, rfl, rfl, _, rfl, ite2 (fun c => ?_) (fun c => ?_)⟩
    · have h27 : 27 < (m + 1) ^ n := by have := of_decide_eq_true c; omega
      have m2 : 2 ≤ m := by
        refine Decidable.byContradiction fun z => ?_
        have a : (m + 1) ^ n ≤ 2 ^ n := Nat.pow_le_pow_left (by omega) n
        have b : 2 ^ n ≤ 2 ^ 4 := Nat.pow_le_pow_right (by decide) n4
        omega
      refine ⟨fun σ' H2 => ∃ m', m' < m ∧ (But [d] H H2 ∧ TapeAt H2 d S ∧ ∃ room : Nat, m' = room ∧ 0 < room ∧ room ≤ 4 ∧ σ' = [some (.ref d), some (.int 27), some (.int n), some (.int room), none, none, none]), fun _ _ h => h, ?_⟩
      refine ⟨_, rfl, _, _, rfl, rfl, m - 1, by omega, c3.trans (But.ex e35), t3.ex e35, m - 1, rfl, by omega, by omega, ?_⟩
      show [some (V.ref d), some (V.int 27), some (V.int n), some (V.int ((m : Int) - 1)), none, none, none] = _
      rw [show (m : Int) - 1 = ((m - 1 : Nat) : Int) by omega]
    have h27 : (m + 1) ^ n ≤ 27 := Nat.le_of_not_lt fun z => c (decide_eq_true (by omega))
    have c5 := c3.trans (But.ex e35)
    have t5 := t3.ex e35
    refine ⟨_, rfl, rfl, d, S, 3, rfl, t5, by decide, by decide, fun r3 H6 hr3 b6 t6 => ⟨_, _, rfl, rfl, ?_⟩⟩
    have c6 := c5.trans b6
    refine ⟨_, rfl, rfl, d, S, 5, rfl, t6, by decide, by decide, fun r4 H7 hr4 b7 t7 => ⟨_, _, rfl, rfl, ?_⟩⟩
    have c7 := c6.trans b7
    dsimp only
    rw [show (1 : Int) + (r3 : Int) = ((r3 + 1 : Nat) : Int) by omega, show (1 : Int) + (r4 : Int) = ((r4 + 1 : Nat) : Int) by omega]
    refine ⟨_, rfl, _, rfl, _, rfl, _, _, rfl, rfl, cmul_small (by omega), _, _, rfl, rfl, by show 3 ≤ sizeLine; decide, fun q2 hq2 => ?_⟩
    have e8 := Evl.Ex.new (o := .lst [.int 0, .int 1, .int 7]) hq2
    refine ⟨_, rfl, rfl, d, S, 3, rfl, t7.ex e8, by decide, by decide, fun r5 H9 hr5 b9 t9 => ?_⟩
    have c9 := (c7.trans (But.ex e8)).trans b9
    obtain ⟨g, g7, hat2⟩ : ∃ g : Nat, g ≤ 7 ∧ atI [V.int 0, .int 1, .int 7] (r5 : Int) = some (.int (g : Nat)) := by
      rcases (show r5 = 0 ∨ r5 = 1 ∨ r5 = 2 by omega) with z | z | z <;> subst z
      · exact ⟨0, by decide, rfl⟩
      · exact ⟨1, by decide, rfl⟩
      · exact ⟨7, by decide, rfl⟩
    refine ⟨q2, _, _, _, rfl, rfl, SqL.of (b9 _ _ (hd0 _ t7 _ hq2) upd_same), hat2, _, _, rfl, rfl, ?_⟩
    dsimp only
    have hmul : n * (r3 + 1) ≤ 4 * 3 := Nat.mul_le_mul n4 (by omega)
    obtain ⟨W, hW⟩ : ∃ W : Nat, W = r4 + 1 + n * (r3 + 1) + g := ⟨_, rfl⟩
    have hmul2 : 0 < n * (r3 + 1) := Nat.mul_pos n0 (by omega)
    have hmul3 : r3 + 1 ≤ n * (r3 + 1) := Nat.le_mul_of_pos_left _ n0
    rw [show ((r4 + 1 : Nat) : Int) + (n : Int) * ((r3 + 1 : Nat) : Int) + (g : Int) = (W : Nat) by rw [hW]; simp]
    refine ⟨_, rfl, _, rfl, rfl, r4 + 1, W, rfl, by omega, by omega, fun u HA eA hu => ?_⟩
    refine ⟨_, rfl, _, rfl, rfl, r3 + 1, W, rfl, by omega, by omega, fun v HB eB hv => ?_⟩
    obtain ⟨sp, rfl, hsp⟩ := hv
    refine ⟨_, rfl, by show 2 ≤ sizeLine; decide, fun s1 hs1 => ⟨by show 1 ≤ sizeLine; decide, fun s2 hs2 => ⟨_, rfl, s2, _, _, rfl, rfl, SqT.of upd_same, (fun z => nomatch z), by omega, by omega, (by show 1 ≤ 1000; decide), fun s3 HC eC hs3 => ?_⟩⟩⟩
    rw [Int.toNat_natCast, List.flatten_replicate_singleton] at hs3
    have x1 := Evl.Ex.new (o := .tup [.ref sp, .int (m : Nat)]) hs1
    have x2 := Evl.Ex.new (o := .tup [.ref s1]) hs2
    refine ⟨by show 3 ≤ sizeLine; decide, fun s4 hs4 => ?_⟩
    have x4 := Evl.Ex.new (o := .tup [u, .ref s3, .bl false]) hs4
    have eAll := eA.trans (eB.trans (x1.trans (x2.trans (eC.trans x4))))
    have gp := Nat.gcd_pos_of_pos_right (r3 + 1) (show 0 < W by omega)
    have gle := Nat.gcd_le_left W (show 0 < r3 + 1 by omega)
    have gle2 := Nat.gcd_le_right (r3 + 1) (show 0 < W by omega)
    refine q (.ref s4) ⟨n, m, (r3 + 1) / Nat.gcd (r3 + 1) W, W / Nat.gcd (r3 + 1) W⟩ _ (c9.trans (But.ex eAll)) (t9.ex eAll)
      ⟨n0, n4, room0, room4, Nat.div_pos gle gp, Nat.le_trans (Nat.div_le_self _ _) (by omega), Nat.div_pos gle2 gp, Nat.le_trans (Nat.div_le_self _ _) (by omega), h27⟩
      ⟨s4, u, s3, s1, sp, rfl, SqT.of upd_same, Evl.ex_t x4 hs3, Evl.ex_t (x2.trans (eC.trans x4)) (SqT.of upd_same), Evl.ex_t (x1.trans (x2.trans (eC.trans x4))) hsp⟩
def sp__law_as_many (_ : Program) (_ : World) (K : PySem.W.Frag) : Sp := Pm 4 fun vs H Q => ∃ (d S : Addr) (hv ov qv : V) (hl : Hl) (R T : Rl) (ps : List Tr), vs = [.ref d, hv, ov, qv] ∧ TapeAt H d S ∧ HlOk hl ∧ HallAt K H hv hl ∧ RuleAt K H ov R ∧ RuleAt K H qv T ∧
  RlOk hl.n hl.r R ∧ RlOk hl.n hl.r T ∧ PaperOk hl.n hl.r R T ps ∧ DomRl hl.n hl.r T R ∧ ∀ H', But [d] H H' → TapeAt H' d S → Q (.bl true) H'
/-! ### _law_as_many -/
abbrev N_sc__law_as_many : List Str := ["_law_tape_here", "_law_hall", "_law_one", "_law_other", "_law_moves_here", "_law_turn", "_law_triple", "_law_k"]
theorem sc__law_as_many : FnScope N_sc__law_as_many ["_law_tape_here", "_law_hall", "_law_one", "_law_other"] (defScope s__law_as_many) := ⟨rfl, rfl, rfl, by decide +kernel, rfl, by decide +kernel, by decide +kernel⟩
theorem cl__law_as_many {f : Addr} {fd : FuncData} (T : Tx K mg) (F : FnP K "_law_as_many" "_law_as_many" s__law_as_many f fd) (m : mg "_law_as_many" = some (.ref f)) (C__law_both : Clb P w K mg base "_law_both" 4 ["_law_hall", "_law_one", "_law_other", "_law_triple", "_law_move"] (sp__law_both P w K)) (C__law_draw : Clb P w K mg base "_law_draw" 1 ["_law_tape_here", "_law_many"] (sp__law_draw P w K)) (C__law_moves : Clb P w K mg base "_law_moves" 1 ["_law_hall"] (sp__law_moves P w K)) :
    Clb P w K mg base "_law_as_many" 5 ["_law_tape_here", "_law_hall", "_law_one", "_law_other"] (sp__law_as_many P w K) := by
    refine clb_of m F (F.bindsN fun _ _ _ _ _ _ us hl => match us, hl with | [_, _, _, _], _ => rfl) (F.ok sc__law_as_many (fun _ _ _ _ h => by exact pm_len h) (fun cdv A outer s H vs Q E hr h => ?_))
    obtain ⟨_, d, S, hv, ov, qv, hl, R, U, ps, rfl, hd, ok, hH, hR, hU, rok, uok, pok, dom, q⟩ := h
    refine ⟨_, PSs.nox (pss_cons (ps_set (i := 4) sc__law_as_many.nd rfl (Or.inl rfl) (pe_c C__law_moves hr (by rfl) (pa_cons (pv 1) pa_nil)))
      (pss_cons (ps_for PassesOwn.never rfl (pi_range1 (by rfl) T.m_range (pa_cons pe_int pa_nil)) (pg_name (i := 5) sc__law_as_many.nd rfl (Or.inl rfl))
      (pss_cons (ps_set (i := 6) sc__law_as_many.nd rfl (Or.inl rfl) (pe_tup (pa_cons (pe_op op_repA (pe_tup (pa_cons pe_int pa_nil)) (pe_callB (lenQ K) (by rfl) T.m_len PySem.boot_len (pa_cons (pe_ix (ixT K) (pv 1) pe_int (fun _ _ => rfl)) pa_nil))) (pa_cons (pe_op op_repA (pe_tup (pa_cons pe_int pa_nil)) (pe_callB (lenQ K) (by rfl) T.m_len PySem.boot_len (pa_cons (pe_ix (ixT K) (pv 1) pe_int (fun _ _ => rfl)) pa_nil))) (pa_cons pe_int pa_nil)))))
      (pss_one (ps_for PassesOwn.never rfl (pi_range1 (by rfl) T.m_range (pa_cons (pe_c C__law_draw hr (by rfl) (pa_cons (pv 0) (pa_cons pe_int pa_nil))) pa_nil)) (pg_name (i := 7) sc__law_as_many.nd rfl (Or.inl rfl))
      (pss_cons (ps_set (i := 6) sc__law_as_many.nd rfl (Or.inl rfl) (pe_c C__law_both hr (by rfl) (pa_cons (pv 1) (pa_cons (pv 2) (pa_cons (pv 3) (pa_cons (pv 6) (pa_cons (pe_ix (ixL K) (pv 4) (pe_c C__law_draw hr (by rfl) (pa_cons (pv 0) (pa_cons (pe_callB (lenQ K) (by rfl) T.m_len PySem.boot_len (pa_cons (pv 4) pa_nil)) pa_nil))) (fun _ _ => rfl)) pa_nil)))))))
      (pss_one (ps_if (PW.pt (pw_or (pt_cmpR op_ne (pe_ix (ixT K) (pv 6) pe_int (fun _ _ => rfl)) pe_int (nomark _)) (pw_or1 (pt_cmpR op_ne (pe_callB (cr_sumT rfl) (by rfl) T.m_sum (by decide +kernel) (pa_cons (pe_ix (ixT K) (pv 6) pe_int (fun _ _ => rfl)) pa_nil)) (pe_callB (cr_sumT rfl) (by rfl) T.m_sum (by decide +kernel) (pa_cons (pe_ix (ixT K) (pv 6) pe_int (fun _ _ => rfl)) pa_nil)) (nomark _)))))
      (pss_one (ps_ret pe_bl))
      pss_nil)))))))
      (pss_one (ps_ret pe_bl)))), ?_⟩
    have n0 := ok.n0
    have n4 := ok.n4
    refine ⟨_, rfl, rfl, _, hl, rfl, ok, hH, fun p H1 hp e1 hls => ?_⟩
    obtain ⟨vs, hvs, hall⟩ := hls
    have hpd : p ∉ [d] := fun z => by
      obtain ⟨ns, turn, left, h1, _⟩ := hd
      rw [List.mem_singleton.mp z, h1] at hp
      cases hp
    have t1 := hd.ex e1
    have hol := ords_len n4 hl.n n4
    have h256 : (ords hl.n hl.n).length ≤ 256 := Nat.le_trans hol (Nat.le_trans (Nat.pow_le_pow_right (by decide) n4) (by decide))
    have mlen : (moves hl.n).length = (ords hl.n hl.n).length + hl.n + 1 := by
      unfold moves
      simp
      omega
    have vlen : vs.length = (ords hl.n hl.n).length + hl.n + 1 := by rw [hall.len, mlen]
    have back : ∀ t : Tr, InvD hl.n hl.r (t.2.1, t.1, - t.2.2) → Vl hl.n hl.r t.1 ∧ Vl hl.n hl.r t.2.1 := fun t h => ⟨h.2.1.1, h.1.1⟩
    refine ⟨_, rfl, by omega, by omega, for_range (lo := 0) (n := 3)
      (fun i σ H' => But [d] H1 H' ∧ TapeAt H' d S ∧ ∃ v5 v6 v7, σ = [some (.ref d), some hv, some ov, some qv, some (.ref p), v5, v6, v7]) ⟨But.refl _ _, t1, none, none, none, rfl⟩ ?_ ?_⟩
    · rintro i σ H2 hi ⟨b2, t2, v5, v6, v7, rfl⟩
      have tu2 : Tu K H H2 := (Tu.ex e1).trans (t1.tu b2)
      obtain ⟨ha, co, se, sv, sp, rfl, h1, h2, h3, h4⟩ := hH.tu tu2
      refine ⟨by show 1 ≤ sizeLine; decide, fun a1 ha1 => ?_⟩
      have e3 := Evl.Ex.new (o := .tup [.int 0]) ha1
      refine ⟨_, rfl, _, _, _, _, rfl, rfl, Evl.ex_t e3 h1, rfl, _, _, rfl, .inr (Evl.ex_t e3 h2), a1, _, _, rfl, rfl, SqT.of upd_same, (fun z => nomatch z), by rw [List.length_replicate]; omega, by rw [List.length_replicate]; omega, by decide, fun x1 H4 e4 hx1 => ?_⟩
      refine ⟨by show 1 ≤ sizeLine; decide, fun a2 ha2 => ?_⟩
      have e5 := Evl.Ex.new (o := .tup [.int 0]) ha2
      have e25 := (e3.trans e4).trans e5
      refine ⟨_, rfl, _, _, _, _, rfl, rfl, Evl.ex_t e25 h1, rfl, _, _, rfl, .inr (Evl.ex_t e25 h2), a2, _, _, rfl, rfl, SqT.of upd_same, (fun z => nomatch z), by rw [List.length_replicate]; omega, by rw [List.length_replicate]; omega, by decide, fun x2 H6 e6 hx2 => ?_⟩
      rw [List.length_replicate, Int.toNat_natCast, List.flatten_replicate_singleton, ← rowV_void] at hx1 hx2
      refine ⟨by show 3 ≤ sizeLine; decide, fun a3 ha3 => ?_⟩
      have e7 := Evl.Ex.new (o := .tup [.ref x1, .ref x2, .int 0]) ha3
      have e27 := (e25.trans e6).trans e7
      have t7 := t2.ex e27
      have hT0 : TrAt K (upd H6 a3 (.tup [.ref x1, .ref x2, .int 0])) (.ref a3) (tvoid hl.n) := ⟨a3, x1, x2, rfl, SqT.of upd_same, Evl.ex_t ((e5.trans e6).trans e7) hx1, Evl.ex_t e7 hx2⟩
      refine ⟨_, rfl, rfl, d, S, 41, rfl, t7, by decide, by decide, fun r8 H8 hr8 b8 t8 => ?_⟩
      refine ⟨_, rfl, by omega, by omega, for_range (lo := 0) (n := r8)
        (fun j σ H' => But [d] H8 H' ∧ TapeAt H' d S ∧ ∃ (v7 : Option V) (tv : V) (t : Tr), σ = [some (.ref d), some (.ref ha), some ov, some qv, some (.ref p), some (.int (0 + (i : Int))), some tv, v7] ∧ TrAt K H' tv t ∧ (∃ u ∈ ps, u.1 = t.1 ∧ u.2.1 = t.2.1 ∧ u.2.2 ≤ t.2.2) ∧ InvD hl.n hl.r (t.2.1, t.1, - t.2.2))
        ⟨But.refl _ _, t8, v7, _, tvoid hl.n, rfl, hT0.tu (t7.tu b8), ⟨_, pok.begins, rfl, rfl, Int.le_refl _⟩, (good_dom n0 uok rok dom).start⟩ ?_ ?_⟩
      · rintro j σ H9 hj ⟨b9, t9, w7, tv, t, rfl, hT, hP, hI⟩
        have b29 : But [d] H2 H9 := ((But.ex e27).trans b8).trans b9
        have tu9 : Tu K H H9 := tu2.trans (t2.tu b29)
        have hvs9 : H9 p = some (.lst vs) := (b2.trans b29) _ _ hpd hvs
        obtain ⟨vx, vy⟩ := back t hI
        refine ⟨_, rfl, _, rfl, _, rfl, _, rfl, _, rfl, _, rfl, _, rfl, _, _, rfl, .inl (SqL.of hvs9), rfl, d, S, vs.length, rfl, t9, by omega, by omega, fun r10 H10 hr10 b10 t10 => ?_⟩
        have hr11 : r10 < (moves hl.n).length := by omega
        have hm0 : (moves hl.n)[r10]? = some (moves hl.n)[r10] := List.getElem?_eq_getElem hr11
        obtain ⟨mv, hmv, hM⟩ := hall.get2 hm0
        have hmm : (moves hl.n)[r10] ∈ moves hl.n := List.getElem_mem hr11
        generalize (moves hl.n)[r10] = mm at *
        have tu10 : Tu K H H10 := tu9.trans (t9.tu b10)
        have b210 := b29.trans b10
        refine ⟨p, vs, _, mv, rfl, rfl, SqL.of (b10 _ _ hpd hvs9), at_of rfl hmv, rfl, _, _, _, _, _, hl, R, U, t, mm, rfl, ok, hH.tu tu10, hR.tu tu10, hU.tu tu10, hT.tu (t9.tu b10), hM.tu (t1.tu (b2.trans b210)), rok, uok, vx, vy, hmm, fun tv' H11 e11 hT' => ?_⟩
        obtain ⟨hP', hI'⟩ := as_many pok n0 rok uok dom (t := t) (ms := [mm]) (fun m hm => by rw [List.mem_singleton.mp hm]; exact hmm) hP hI
        have hrun : runs hl.r R U t [mm] = both hl.r R U t mm := rfl
        rw [hrun] at hP' hI'
        generalize both hl.r R U t mm = t' at *
        obtain ⟨z1, z2⟩ := as_many_at pok hP' hI'
        obtain ⟨ta, u1, u2, rfl, k1, k2, k3⟩ := id hT'
        refine ⟨_, rfl, _, _, _, _, rfl, rfl, k1, rfl, rfl, _, rfl, ?_⟩
        rw [z1, decide_eq_true (rfl : V.int 0 = V.int 0)]
        refine iteF ⟨_, rfl, _, _, _, _, rfl, rfl, k1, rfl, u1, t'.1.map (fun n : Nat => (n : Int)), rfl, by rw [← rowV_ints]; exact k2, _, rfl, _, _, _, _, rfl, rfl, k1, rfl, u2, t'.2.1.map (fun n : Nat => (n : Int)), rfl, by rw [← rowV_ints]; exact k3, rfl, _, rfl, ?_⟩
        rw [sum_ints, sum_ints, z2, decide_eq_true rfl]
        exact iteF ⟨(b9.trans b10).trans (But.ex e11), t10.ex e11, _, _, t', rfl, hT', hP', hI'⟩
      · rintro σ H9 ⟨b9, t9, w7, tv, t, rfl, hT, hP, hI⟩
        exact ⟨((b2.trans (But.ex e27)).trans b8).trans b9, t9, _, _, _, rfl⟩
    · rintro σ H2 ⟨b2, t2, v5, v6, v7, rfl⟩
      exact q H2 ((But.ex e1).trans b2) t2
end
end K58
set_option Elab.async false
set_option linter.all false
set_option maxRecDepth 100000
set_option maxHeartbeats 4000000
set_option autoImplicit false
namespace K58
open PySem PySem.Spec PyProof.Rows L2
open Evl (Ex)
section
variable {P : Program} {w : World} {K : PySem.W.Frag} {mg : Str → Option Value} {base : Heap}
def sp_law (_ : Program) (_ : World) (K : PySem.W.Frag) : Sp := Pm 1 fun vs H Q => ∃ (a : Addr) (ns : List Int), vs = [.ref a] ∧ SqL K H a (ns.map V.int) ∧ ns.length ≤ 63 ∧ ∀ H', Q (.bl true) H'
/-! ### law -/
abbrev N_sc_law : List Str := ["_law_script", "_law_tape_here", "_law_k", "_law_hall", "_law_told", "_law_other", "_law_one"]
theorem sc_law : FnScope N_sc_law ["_law_script"] (defScope s_law) := ⟨rfl, rfl, rfl, by decide +kernel, rfl, by decide +kernel, by decide +kernel⟩
theorem ok_law {f : Addr} {fd : FuncData} (T : Tx K mg) (F : FnP K "law" "law" s_law f fd) (C__law_alike_hall : Clb P w K mg base "_law_alike_hall" 2 ["_law_tape_here", "_law_most"] (sp__law_alike_hall P w K)) (C__law_as_many : Clb P w K mg base "_law_as_many" 5 ["_law_tape_here", "_law_hall", "_law_one", "_law_other"] (sp__law_as_many P w K)) (C__law_is_never : Clb P w K mg base "_law_is_never" 13 ["_law_hall", "_law_one", "_law_other"] (sp__law_is_never P w K)) (C__law_tape : Clb P w K mg base "_law_tape" 1 ["_law_script"] (sp__law_tape P w K)) (C__law_told_rule : Clb P w K mg base "_law_told_rule" 2 ["_law_tape_here", "_law_hall"] (sp__law_told_rule P w K)) (C_never_worse : Clb P w K mg base "never_worse" 12 ["hall", "one", "other"] (sp_never_worse P w K)) :
    FnOk P w K mg base CX0 14 f fd ["_law_script"] (sp_law P w K) := by
    refine F.ok sc_law (fun _ _ _ _ h => by exact pm_len h) (fun cdv A outer s H vs Q E hr h => ?_)
    obtain ⟨_, a, ns, rfl, hS, hlen, q⟩ := h
    refine ⟨_, PSs.nox (pss_cons (ps_set (i := 1) sc_law.nd rfl (Or.inl rfl) (pe_c C__law_tape hr (by rfl) (pa_cons (pv 0) pa_nil)))
      (pss_cons (ps_for PassesOwn.never rfl (pi_range1 (by rfl) T.m_range (pa_cons pe_int pa_nil)) (pg_name (i := 2) sc_law.nd rfl (Or.inl rfl))
      (pss_cons (ps_set (i := 3) sc_law.nd rfl (Or.inl rfl) (pe_c C__law_alike_hall hr (by rfl) (pa_cons (pv 1) (pa_cons pe_int pa_nil))))
      (pss_cons (ps_set (i := 4) sc_law.nd rfl (Or.inl rfl) (pe_c C__law_told_rule hr (by rfl) (pa_cons (pv 1) (pa_cons (pv 3) pa_nil))))
      (pss_cons (ps_for PassesOwn.never rfl (pi_list (pe_lst (pa_cons (pe_tup (pa_cons pe_str pa_nil)) (pa_cons (pe_tup (pa_cons pe_str pa_nil)) (pa_cons (pe_tup (pa_cons pe_str pa_nil)) (pa_cons (pv 4) pa_nil)))))) (pg_name (i := 5) sc_law.nd rfl (Or.inl rfl))
      (pss_one (ps_if (PW.pt (pw_or (pt_not (pt_val (pe_c C__law_is_never hr (by rfl) (pa_cons (pv 3) (pa_cons (pe_tup (pa_cons pe_str pa_nil)) (pa_cons (pv 5) pa_nil)))) (fun _ => rfl))) (pw_or1 (pt_not (pt_val (pe_c C__law_is_never hr (by rfl) (pa_cons (pv 3) (pa_cons (pv 5) (pa_cons (pv 5) pa_nil)))) (fun _ => rfl))))))
      (pss_one (ps_ret pe_bl))
      pss_nil)))
      (pss_cons (ps_if (pt_not (pt_val (pe_c C__law_is_never hr (by rfl) (pa_cons (pv 3) (pa_cons (pe_tup (pa_cons pe_str pa_nil)) (pa_cons (pe_tup (pa_cons pe_str pa_nil)) pa_nil)))) (fun _ => rfl)))
      (pss_one (ps_ret pe_bl))
      pss_nil)
      (pss_one (ps_for PassesOwn.never rfl (pi_list (pe_lst (pa_cons (pe_tup (pa_cons (pe_tup (pa_cons pe_str pa_nil)) (pa_cons (pe_tup (pa_cons pe_str pa_nil)) pa_nil))) (pa_cons (pe_tup (pa_cons (pv 4) (pa_cons (pe_tup (pa_cons pe_str pa_nil)) pa_nil))) pa_nil)))) (pg_tupQ (n := 2) K rfl (pgs_cons (pg_name (i := 6) sc_law.nd rfl (Or.inl rfl)) (pgs_cons (pg_name (i := 5) sc_law.nd rfl (Or.inl rfl)) pgs_nil)))
      (pss_one (ps_if (PW.pt (pw_and (pt_cmpR op_eq (pe_ix (ixT K) (pe_c C_never_worse hr (by rfl) (pa_cons (pv 3) (pa_cons (pv 6) (pa_cons (pv 5) pa_nil)))) pe_int (fun _ _ => rfl)) pe_str (nomark _)) (pw_and1 (pt_not (pt_val (pe_c C__law_as_many hr (by rfl) (pa_cons (pv 1) (pa_cons (pv 3) (pa_cons (pv 6) (pa_cons (pv 5) pa_nil))))) (fun _ => rfl))))))
      (pss_one (ps_ret pe_bl))
      pss_nil)))))))))
      (pss_one (ps_ret pe_bl)))), ?_⟩
    refine ⟨_, rfl, rfl, a, ns, rfl, hS, hlen, fun d S H1 hd e1 t1 => ?_⟩
    refine ⟨_, rfl, by omega, by omega, for_range (lo := 0) (n := 2)
      (fun i σ H' => TapeAt H' d S ∧ ∃ v2 v3 v4 v5 v6, σ = [some (.ref a), some (.ref d), v2, v3, v4, v5, v6]) ⟨t1, none, none, none, none, none, rfl⟩ ?_ ?_⟩
    · rintro i σ H2 hi ⟨t2, v2, v3, v4, v5, v6, rfl⟩
      refine ⟨_, rfl, rfl, d, S, rfl, t2, fun hv hl H3 b3 t3 ok hH => ?_⟩
      have n0 := ok.n0
      refine ⟨_, rfl, _, rfl, rfl, d, S, hv, hl, rfl, t3, ok, hH, fun tv R H4 b4 t4 hR rok => ?_⟩
      have hH4 := hH.tu (t3.tu b4)
      refine ⟨by show 1 ≤ sizeLine; decide, fun a1 g1 => ⟨by show 1 ≤ sizeLine; decide, fun a2 g2 => ⟨by show 1 ≤ sizeLine; decide, fun a3 g3 => ⟨_, rfl, by show 4 ≤ sizeLine; decide, fun p hp => ?_⟩⟩⟩⟩
      have e41 := Evl.Ex.new (o := .tup [.str "random"]) g1
      have e42 := Evl.Ex.new (o := .tup [.str "two"]) g2
      have e43 := Evl.Ex.new (o := .tup [.str "quick"]) g3
      have e44 := Evl.Ex.new (o := .lst [.ref a1, .ref a2, .ref a3, tv]) hp
      have e45 := e41.trans (e42.trans (e43.trans e44))
      have hall : AllR (RuleAt K (upd (upd (upd (upd H4 a1 (.tup [.str "random"])) a2 (.tup [.str "two"])) a3 (.tup [.str "quick"])) p (.lst [.ref a1, .ref a2, .ref a3, tv]))) [.ref a1, .ref a2, .ref a3, tv] [.random, .two, .quick, R] :=
        .cons ⟨a1, rfl, Evl.ex_t (e42.trans (e43.trans e44)) (SqT.of upd_same)⟩ (.cons ⟨a2, rfl, Evl.ex_t (e43.trans e44) (SqT.of upd_same)⟩ (.cons ⟨a3, rfl, Evl.ex_t e44 (SqT.of upd_same)⟩ (.cons (hR.ex e45) .nil)))
      have hoks : ∀ T ∈ [Rl.random, .two, .quick, R], RlOk hl.n hl.r T := fun T hT => by
        simp only [List.mem_cons, List.not_mem_nil, or_false] at hT
        rcases hT with rfl | rfl | rfl | rfl
        · exact trivial
        · exact trivial
        · exact trivial
        · exact rok
      have hp5 : (upd (upd (upd (upd H4 a1 (.tup [.str "random"])) a2 (.tup [.str "two"])) a3 (.tup [.str "quick"])) p (.lst [.ref a1, .ref a2, .ref a3, tv])) p = some (.lst [.ref a1, .ref a2, .ref a3, tv]) := upd_same
      have t5 := t4.ex e45
      have hH5 := hH4.ex e45
      have hR5 := hR.ex e45
      generalize upd (upd (upd (upd H4 a1 (.tup [.str "random"])) a2 (.tup [.str "two"])) a3 (.tup [.str "quick"])) p (.lst [.ref a1, .ref a2, .ref a3, tv]) = H5 at *
      refine ⟨p, rfl, ⟨_, SqL.of hp5⟩, for_list (K := K) (a := p) (xs := [.ref a1, .ref a2, .ref a3, tv])
        (fun j σ H' => Ex H5 H' ∧ ∃ v5, σ = [some (.ref a), some (.ref d), some (.int (0 + (i : Int))), some hv, some tv, v5, v6]) ⟨Evl.Ex.refl _, _, rfl⟩ (fun j σ H' _ h => SqL.of (h.1 _ _ hp5)) ?_ ?_⟩
      · rintro j ov σ H6 hj ⟨e6, w5, rfl⟩
        obtain ⟨T, hT, hO⟩ := hall.get hj
        have tok := hoks T (List.mem_of_getElem? hT)
        refine ⟨_, rfl, by show 1 ≤ sizeLine; decide, fun c1 k1 => ⟨_, rfl, rfl, _, _, _, hl, .least, T, InvD hl.n hl.r, rfl, ok, hH5.ex (e6.trans (Evl.Ex.new k1)), ⟨c1, rfl, SqT.of upd_same⟩, hO.ex (e6.trans (Evl.Ex.new k1)), trivial, tok, good_dom n0 trivial tok (dom_least n0 tok), fun H7 e7 => ⟨true, rfl, iteF ?_⟩⟩⟩
        have e67 := (e6.trans (Evl.Ex.new (o := .tup [.str "least"]) k1)).trans e7
        exact ⟨_, rfl, _, rfl, _, rfl, rfl, _, _, _, hl, T, T, _, rfl, ok, hH5.ex e67, hO.ex e67, hO.ex e67, tok, tok, good_self, fun H8 e8 => ⟨true, rfl, iteF ⟨e67.trans e8, _, rfl⟩⟩⟩
      · rintro σ H6 ⟨e6, w5, rfl⟩
        refine ⟨_, rfl, by show 1 ≤ sizeLine; decide, fun c1 k1 => ⟨by show 1 ≤ sizeLine; decide, fun c2 k2 => ⟨rfl, _, _, _, hl, .two, .random, InvD hl.n hl.r, rfl, ok, hH5.ex (e6.trans ((Evl.Ex.new k1).trans (Evl.Ex.new k2))), ⟨c1, rfl, Evl.ex_t (Evl.Ex.new k2) (SqT.of upd_same)⟩, ⟨c2, rfl, SqT.of upd_same⟩, trivial, trivial, good_dom n0 trivial trivial dom_two, fun H7 e7 => ⟨true, rfl, iteF ?_⟩⟩⟩⟩
        have e57 := (e6.trans ((Evl.Ex.new (o := .tup [.str "two"]) k1).trans (Evl.Ex.new (o := .tup [.str "random"]) k2))).trans e7
        have t7 := t5.ex e57
        have hH7 := hH5.ex e57
        have hR7 := hR5.ex e57
        refine ⟨by show 1 ≤ sizeLine; decide, fun a5 g5 => ⟨by show 1 ≤ sizeLine; decide, fun a6 g6 => ⟨by show 2 ≤ sizeLine; decide, fun q1 g7 => ⟨_, rfl, by show 1 ≤ sizeLine; decide, fun a7 g8 => ⟨by show 2 ≤ sizeLine; decide, fun q2 g9 => ⟨by show 2 ≤ sizeLine; decide, fun p2 g10 => ?_⟩⟩⟩⟩⟩⟩
        have x1 := Evl.Ex.new (o := .tup [.str "quick"]) g5
        have x2 := Evl.Ex.new (o := .tup [.str "least"]) g6
        have x3 := Evl.Ex.new (o := .tup [.ref a5, .ref a6]) g7
        have x4 := Evl.Ex.new (o := .tup [.str "least"]) g8
        have x5 := Evl.Ex.new (o := .tup [tv, .ref a7]) g9
        have x6 := Evl.Ex.new (o := .lst [.ref q1, .ref q2]) g10
        have y5 := x5.trans x6
        have y4 := x4.trans y5
        have y3 := x3.trans y4
        have y2 := x2.trans y3
        have y1 := x1.trans y2
        have pall : AllR (fun v (R : Rl) => ∃ b u z, v = V.ref b ∧ SqT K _ b [u, z] ∧ RuleAt K _ u R ∧ RuleAt K _ z .least) [.ref q1, .ref q2] [.quick, R] :=
          .cons ⟨q1, _, _, rfl, Evl.ex_t y4 (SqT.of upd_same), ⟨a5, rfl, Evl.ex_t y2 (SqT.of upd_same)⟩, ⟨a6, rfl, Evl.ex_t y3 (SqT.of upd_same)⟩⟩ (.cons ⟨q2, _, _, rfl, Evl.ex_t x6 (SqT.of upd_same), hR7.ex y1, ⟨a7, rfl, Evl.ex_t y5 (SqT.of upd_same)⟩⟩ .nil)
        have roks : ∀ T ∈ [Rl.quick, R], RlOk hl.n hl.r T := fun T hT => by
          simp only [List.mem_cons, List.not_mem_nil, or_false] at hT
          rcases hT with rfl | rfl
          · exact trivial
          · exact rok
        have t8 := t7.ex y1
        have hH8 := hH7.ex y1
        have hp8 : (upd (upd (upd (upd (upd (upd H7 a5 (.tup [.str "quick"])) a6 (.tup [.str "least"])) q1 (.tup [.ref a5, .ref a6])) a7 (.tup [.str "least"])) q2 (.tup [tv, .ref a7])) p2 (.lst [.ref q1, .ref q2])) p2 = some (.lst [.ref q1, .ref q2]) := upd_same
        have hpd : p2 ∉ [d] := fun z => by
          obtain ⟨ns, turn, left, z1, _⟩ := t7.ex (x1.trans (x2.trans (x3.trans (x4.trans x5))))
          rw [List.mem_singleton.mp z, z1] at g10
          cases g10
        generalize upd (upd (upd (upd (upd (upd H7 a5 (.tup [.str "quick"])) a6 (.tup [.str "least"])) q1 (.tup [.ref a5, .ref a6])) a7 (.tup [.str "least"])) q2 (.tup [tv, .ref a7])) p2 (.lst [.ref q1, .ref q2]) = H8 at *
        refine ⟨p2, rfl, ⟨_, SqL.of hp8⟩, for_list (K := K) (a := p2) (xs := [.ref q1, .ref q2])
          (fun j σ H' => But [d] H8 H' ∧ TapeAt H' d S ∧ ∃ v5 v6, σ = [some (.ref a), some (.ref d), some (.int (0 + (i : Int))), some hv, some tv, v5, v6]) ⟨But.refl _ _, t8, _, _, rfl⟩ (fun j σ H' _ h => SqL.of (h.1 _ _ hpd hp8)) ?_ ?_⟩
        · rintro j v σ H9 hj ⟨b9, t9, w5, w6, rfl⟩
          obtain ⟨T, hT, b, u, z, rfl, k1, k2, k3⟩ := pall.get hj
          have tok := roks T (List.mem_of_getElem? hT)
          have tu9 : Tu K H8 H9 := t8.tu b9
          have hH9 := hH8.tu tu9
          have hT9 := k2.tu tu9
          have hL9 := k3.tu tu9
          refine ⟨b, _, rfl, tu9 _ _ k1, rfl, _, _, rfl, _, _, rfl, rfl, ?_⟩
          refine ⟨_, rfl, _, rfl, _, rfl, rfl, hv, u, z, hl, T, .least, rfl, ok, hH9, hT9, hL9, tok, trivial, fun c d2 t' H10 e10 _ _ hc => ?_, fun c d2 ps H10 e10 hc hP pok _ => ?_⟩
          · refine ⟨_, _, _, _, rfl, rfl, hc, rfl, rfl, _, rfl, ?_⟩
            rw [show decide (V.str "worse" = V.str "never") = false by decide +kernel]
            exact iteF ⟨b9.trans (But.ex e10), t9.ex e10, _, _, rfl⟩
          · refine ⟨_, _, _, _, rfl, rfl, hc, rfl, rfl, _, rfl, ?_⟩
            rw [dT]
            exact iteT ⟨_, rfl, _, rfl, _, rfl, _, rfl, rfl, d, S, hv, u, z, hl, T, .least, ps, rfl, t9.ex e10, ok, hH9.ex e10, hT9.ex e10, hL9.ex e10, tok, trivial, pok, dom_least n0 tok, fun H11 b11 t11 => ⟨true, rfl, iteF ⟨(b9.trans (But.ex e10)).trans b11, t11, _, _, rfl⟩⟩⟩
        · rintro σ H9 ⟨b9, t9, w5, w6, rfl⟩
          exact ⟨t9, _, _, _, _, _, rfl⟩
    · rintro σ H2 ⟨t2, v2, v3, v4, v5, v6, rfl⟩
      exact q H2
end
end K58
set_option Elab.async false
set_option linter.all false
set_option maxRecDepth 100000
set_option maxHeartbeats 0
set_option autoImplicit false
/-! the head: facts by names, the run -/
namespace K58
open PySem PySem.Spec PyProof.Rows L2
open Evl (Ex)
def d_is_whole : He.DefD := ⟨("is_whole", none), "is_whole", "is_whole", defArgs s_is_whole, defBody s_is_whole, defScope s_is_whole, [], []⟩
def d_common : He.DefD := ⟨("common", none), "common", "common", defArgs s_common, defBody s_common, defScope s_common, [], []⟩
def d_fraction_of : He.DefD := ⟨("fraction_of", none), "fraction_of", "fraction_of", defArgs s_fraction_of, defBody s_fraction_of, defScope s_fraction_of, [], []⟩
def d_divided : He.DefD := ⟨("divided", none), "divided", "divided", defArgs s_divided, defBody s_divided, defScope s_divided, [], []⟩
def d_is_less : He.DefD := ⟨("is_less", none), "is_less", "is_less", defArgs s_is_less, defBody s_is_less, defScope s_is_less, [], []⟩
def d_is_alike : He.DefD := ⟨("is_alike", none), "is_alike", "is_alike", defArgs s_is_alike, defBody s_is_alike, defScope s_is_alike, [], []⟩
def d_is_line : He.DefD := ⟨("is_line", none), "is_line", "is_line", defArgs s_is_line, defBody s_is_line, defScope s_is_line, [], []⟩
def d_place_of : He.DefD := ⟨("place_of", none), "place_of", "place_of", defArgs s_place_of, defBody s_place_of, defScope s_place_of, [], []⟩
def d_shorter : He.DefD := ⟨("shorter", none), "shorter", "shorter", defArgs s_shorter, defBody s_shorter, defScope s_shorter, [], []⟩
def d_shortest : He.DefD := ⟨("shortest", none), "shortest", "shortest", defArgs s_shortest, defBody s_shortest, defScope s_shortest, [], []⟩
def d_quickest : He.DefD := ⟨("quickest", none), "quickest", "quickest", defArgs s_quickest, defBody s_quickest, defScope s_quickest, [], []⟩
def d_sent_to : He.DefD := ⟨("sent_to", none), "sent_to", "sent_to", defArgs s_sent_to, defBody s_sent_to, defScope s_sent_to, [], []⟩
def d_first_stand : He.DefD := ⟨("first_stand", none), "first_stand", "first_stand", defArgs s_first_stand, defBody s_first_stand, defScope s_first_stand, [], []⟩
def d_are_lines : He.DefD := ⟨("are_lines", none), "are_lines", "are_lines", defArgs s_are_lines, defBody s_are_lines, defScope s_are_lines, [], []⟩
def d_is_stand : He.DefD := ⟨("is_stand", none), "is_stand", "is_stand", defArgs s_is_stand, defBody s_is_stand, defScope s_is_stand, [], []⟩
def d_all_orders : He.DefD := ⟨("all_orders", none), "all_orders", "all_orders", defArgs s_all_orders, defBody s_all_orders, defScope s_all_orders, [], []⟩
def d_lines_with : He.DefD := ⟨("lines_with", none), "lines_with", "lines_with", defArgs s_lines_with, defBody s_lines_with, defScope s_lines_with, [], []⟩
def d_shifts_of : He.DefD := ⟨("shifts_of", none), "shifts_of", "shifts_of", defArgs s_shifts_of, defBody s_shifts_of, defScope s_shifts_of, [], []⟩
def d_asked : He.DefD := ⟨("asked", none), "asked", "asked", defArgs s_asked, defBody s_asked, defScope s_asked, [], []⟩
def d_changed : He.DefD := ⟨("changed", none), "changed", "changed", defArgs s_changed, defBody s_changed, defScope s_changed, [], []⟩
def d_moved_on : He.DefD := ⟨("moved_on", none), "moved_on", "moved_on", defArgs s_moved_on, defBody s_moved_on, defScope s_moved_on, [], []⟩
def d_kept_lines : He.DefD := ⟨("kept_lines", none), "kept_lines", "kept_lines", defArgs s_kept_lines, defBody s_kept_lines, defScope s_kept_lines, [], []⟩
def d_all_moves : He.DefD := ⟨("all_moves", none), "all_moves", "all_moves", defArgs s_all_moves, defBody s_all_moves, defScope s_all_moves, [], []⟩
def d_ask_rules : He.DefD := ⟨("ask_rules", none), "ask_rules", "ask_rules", defArgs s_ask_rules, defBody s_ask_rules, defScope s_ask_rules, [], []⟩
def d_both_moved : He.DefD := ⟨("both_moved", none), "both_moved", "both_moved", defArgs s_both_moved, defBody s_both_moved, defScope s_both_moved, [], []⟩
def d_is_worse : He.DefD := ⟨("is_worse", none), "is_worse", "is_worse", defArgs s_is_worse, defBody s_is_worse, defScope s_is_worse, [], []⟩
def d_are_kept : He.DefD := ⟨("are_kept", none), "are_kept", "are_kept", defArgs s_are_kept, defBody s_are_kept, defScope s_are_kept, [], []⟩
def d_is_triple : He.DefD := ⟨("is_triple", none), "is_triple", "is_triple", defArgs s_is_triple, defBody s_is_triple, defScope s_is_triple, [], []⟩
def d_least_known : He.DefD := ⟨("least_known", none), "least_known", "least_known", defArgs s_least_known, defBody s_least_known, defScope s_least_known, [], []⟩
def d_is_closed : He.DefD := ⟨("is_closed", none), "is_closed", "is_closed", defArgs s_is_closed, defBody s_is_closed, defScope s_is_closed, [], []⟩
def d_lets_never : He.DefD := ⟨("lets_never", none), "lets_never", "lets_never", defArgs s_lets_never, defBody s_lets_never, defScope s_lets_never, [], []⟩
def d_Pairs_init : He.DefD := ⟨("Pairs", some "__init__"), "__init__", "Pairs.__init__", defArgs s_Pairs_init, defBody s_Pairs_init, defScope s_Pairs_init, [], []⟩
def d_Pairs_run_to : He.DefD := ⟨("Pairs", some "run_to"), "run_to", "Pairs.run_to", defArgs s_Pairs_run_to, defBody s_Pairs_run_to, defScope s_Pairs_run_to, [], []⟩
def d_Pairs_met : He.DefD := ⟨("Pairs", some "met"), "met", "Pairs.met", defArgs s_Pairs_met, defBody s_Pairs_met, defScope s_Pairs_met, [], []⟩
def d_Pairs_worse_run : He.DefD := ⟨("Pairs", some "worse_run"), "worse_run", "Pairs.worse_run", defArgs s_Pairs_worse_run, defBody s_Pairs_worse_run, defScope s_Pairs_worse_run, [], []⟩
def d_never_worse : He.DefD := ⟨("never_worse", none), "never_worse", "never_worse", defArgs s_never_worse, defBody s_never_worse, defScope s_never_worse, [], []⟩
def d__law_tape : He.DefD := ⟨("_law_tape", none), "_law_tape", "_law_tape", defArgs s__law_tape, defBody s__law_tape, defScope s__law_tape, [], []⟩
def d__law_draw : He.DefD := ⟨("_law_draw", none), "_law_draw", "_law_draw", defArgs s__law_draw, defBody s__law_draw, defScope s__law_draw, [], []⟩
def d__law_frac : He.DefD := ⟨("_law_frac", none), "_law_frac", "_law_frac", defArgs s__law_frac, defBody s__law_frac, defScope s__law_frac, [], []⟩
def d__law_all_lines : He.DefD := ⟨("_law_all_lines", none), "_law_all_lines", "_law_all_lines", defArgs s__law_all_lines, defBody s__law_all_lines, defScope s__law_all_lines, [], []⟩
def d__law_sent : He.DefD := ⟨("_law_sent", none), "_law_sent", "_law_sent", defArgs s__law_sent, defBody s__law_sent, defScope s__law_sent, [], []⟩
def d__law_put : He.DefD := ⟨("_law_put", none), "_law_put", "_law_put", defArgs s__law_put, defBody s__law_put, defScope s__law_put, [], []⟩
def d__law_step : He.DefD := ⟨("_law_step", none), "_law_step", "_law_step", defArgs s__law_step, defBody s__law_step, defScope s__law_step, [], []⟩
def d__law_kept : He.DefD := ⟨("_law_kept", none), "_law_kept", "_law_kept", defArgs s__law_kept, defBody s__law_kept, defScope s__law_kept, [], []⟩
def d__law_moves : He.DefD := ⟨("_law_moves", none), "_law_moves", "_law_moves", defArgs s__law_moves, defBody s__law_moves, defScope s__law_moves, [], []⟩
def d__law_both : He.DefD := ⟨("_law_both", none), "_law_both", "_law_both", defArgs s__law_both, defBody s__law_both, defScope s__law_both, [], []⟩
def d__law_alike_hall : He.DefD := ⟨("_law_alike_hall", none), "_law_alike_hall", "_law_alike_hall", defArgs s__law_alike_hall, defBody s__law_alike_hall, defScope s__law_alike_hall, [], []⟩
def d__law_told_rule : He.DefD := ⟨("_law_told_rule", none), "_law_told_rule", "_law_told_rule", defArgs s__law_told_rule, defBody s__law_told_rule, defScope s__law_told_rule, [], []⟩
def d__law_is_never : He.DefD := ⟨("_law_is_never", none), "_law_is_never", "_law_is_never", defArgs s__law_is_never, defBody s__law_is_never, defScope s__law_is_never, [], []⟩
def d__law_as_many : He.DefD := ⟨("_law_as_many", none), "_law_as_many", "_law_as_many", defArgs s__law_as_many, defBody s__law_as_many, defScope s__law_as_many, [], []⟩
def d_law : He.DefD := ⟨("law", none), "law", "law", defArgs s_law, defBody s_law, defScope s_law, [], []⟩
def fn : List He.DefD := [d_is_whole, d_common, d_fraction_of, d_divided, d_is_less, d_is_alike, d_is_line, d_place_of, d_shorter, d_shortest, d_quickest, d_sent_to, d_first_stand, d_are_lines, d_is_stand, d_all_orders, d_lines_with, d_shifts_of, d_asked, d_changed, d_moved_on, d_kept_lines, d_all_moves, d_ask_rules, d_both_moved, d_is_worse, d_are_kept, d_is_triple, d_least_known, d_is_closed, d_lets_never, d_Pairs_init, d_Pairs_run_to, d_Pairs_met, d_Pairs_worse_run, d_never_worse, d__law_tape, d__law_draw, d__law_frac, d__law_all_lines, d__law_sent, d__law_put, d__law_step, d__law_kept, d__law_moves, d__law_both, d__law_alike_hall, d__law_told_rule, d__law_is_never, d__law_as_many, d_law]
def fa : List He.Fa := [.glo "is_whole", .glo "common", .glo "fraction_of", .glo "divided", .glo "is_less", .glo "is_alike", .glo "is_line", .glo "place_of", .glo "shorter", .glo "shortest", .glo "quickest", .glo "sent_to", .glo "first_stand", .glo "are_lines", .glo "is_stand", .glo "all_orders", .glo "lines_with", .glo "shifts_of", .glo "asked", .glo "changed", .glo "moved_on", .glo "kept_lines", .glo "all_moves", .glo "ask_rules", .glo "both_moved", .glo "is_worse", .glo "are_kept", .glo "is_triple", .glo "least_known", .glo "is_closed", .glo "lets_never", .glo "never_worse", .glo "_law_tape", .glo "_law_draw", .glo "_law_frac", .glo "_law_all_lines", .glo "_law_sent", .glo "_law_put", .glo "_law_step", .glo "_law_kept", .glo "_law_moves", .glo "_law_both", .glo "_law_alike_hall", .glo "_law_told_rule", .glo "_law_is_never", .glo "_law_as_many", .glo "law", .glo "Pairs", .glo "PLACES", .free "isinstance", .free "int", .free "bool", .free "tuple", .free "len", .free "range", .free "abs", .free "min", .free "max", .free "sum", .free "sorted", .free "all", .free "zip", .free "list", .free "reversed", .str "AWAY" "away", .str "TAKEN" "taken", .str "SERVED" "served", .str "NONE" "none", .str "TURNS" "turns", .cls "Pairs", .mkr "Pairs", .meth "Pairs" "run_to", .meth "Pairs" "met", .meth "Pairs" "worse_run", .noat "Pairs" "hall", .noat "Pairs" "one", .noat "Pairs" "other", .noat "Pairs" "line", .noat "Pairs" "ahead_of", .noat "Pairs" "least_of"]
def names : List PySem.Str := (["LineError", "NoNever", "NoFraction", "is_whole", "common", "fraction_of", "divided", "is_less", "is_alike", "is_line", "place_of", "shorter", "shortest", "quickest", "sent_to", "AWAY", "TAKEN", "SERVED", "NONE", "first_stand", "are_lines", "is_stand", "all_orders", "lines_with", "shifts_of", "asked", "changed", "moved_on", "TURNS", "PLACES"] : List PySem.Str) ++ (["kept_lines", "all_moves", "ask_rules", "both_moved", "is_worse", "are_kept", "is_triple", "least_known", "is_closed", "lets_never", "Pairs", "never_worse", "_law_tape", "_law_draw", "_law_frac", "_law_all_lines", "_law_sent", "_law_put", "_law_step", "_law_kept", "_law_moves", "_law_both", "_law_is_bad", "_law_alike_hall", "_law_told_rule", "_law_is_never", "_law_as_many"] : List PySem.Str)
abbrev R : PySem.W.OpenRow := PySem.W.OpenLaw.row PySem.Challenge.rw_shorterline_k58_whole_alike_halls
/-- the facts, and the module's tuple PLACES -/
def exB (K : PySem.W.Frag) : Bool := He.tupB K "PLACES" [He.Dv.str "least"]
abbrev AlP : Type := He.AlD × Bool
def obsP (n : Nat) (g : Addr → Option Obj) : AlP := (He.obsDG n fa fn g, exB (He.frG g (He.asD g n)))
def hkP : PySem.W.Hook where
  α := AlP
  obs := fun s => obsP 4 s.heap.get?
  val := fun _ => (He.valD fn, true)
  says := fun _ h => ∃ K : PySem.W.Frag, K.In h ∧ He.SaysD fa fn K ∧ exB K = true
  of := fun _ _ e => ⟨_, He.frG_in, congrArg (fun z : AlP => z.1) e, congrArg (fun z : AlP => z.2) e⟩
  keeps := fun _ _ _ ⟨K, hK, c, d⟩ k => ⟨K, PySem.W.Frag.In.keeps hK k, c, d⟩
def obP (s : PySem.W.SharedT) : AlP := obsP 4 (HandSHeadRun.getT s)
theorem obP_eq (s : PySem.W.SharedT) : obP s = hkP.obs s.abs := by
  have e : HandSHeadRun.getT s = s.abs.heap.get? := funext (HandSHeadRun.getT_eq s)
  unfold obP
  rw [e]
  rfl
theorem run (w : World) : HandSHeadRun.RunEq R (PySem.W.view R.prog [65]) hkP obP 3000 names w := by
  intro os
  kernel_rfl
end K58
set_option Elab.async false
set_option linter.all false
set_option maxRecDepth 100000
set_option maxHeartbeats 0
set_option autoImplicit false
namespace K58
open PySem PySem.Spec PyProof.Rows L2
open Evl (Ex)
theorem tx_of {K : PySem.W.Frag} {h : Heap} {mg : Str → Option Value} (X : K.In h) (G : h.Ns mainGlobals mg) (c : He.SaysD fa fn K) (x : exB K = true) : Tx K mg :=
  { m_isinstance := (He.free_ok X G (c.fact 49 (f := .free "isinstance") rfl))
    m_int := (He.free_ok X G (c.fact 50 (f := .free "int") rfl))
    m_bool := (He.free_ok X G (c.fact 51 (f := .free "bool") rfl))
    m_tuple := (He.free_ok X G (c.fact 52 (f := .free "tuple") rfl))
    m_len := (He.free_ok X G (c.fact 53 (f := .free "len") rfl))
    m_range := (He.free_ok X G (c.fact 54 (f := .free "range") rfl))
    m_abs := (He.free_ok X G (c.fact 55 (f := .free "abs") rfl))
    m_min := (He.free_ok X G (c.fact 56 (f := .free "min") rfl))
    m_max := (He.free_ok X G (c.fact 57 (f := .free "max") rfl))
    m_sum := (He.free_ok X G (c.fact 58 (f := .free "sum") rfl))
    m_sorted := (He.free_ok X G (c.fact 59 (f := .free "sorted") rfl))
    m_all := (He.free_ok X G (c.fact 60 (f := .free "all") rfl))
    m_zip := (He.free_ok X G (c.fact 61 (f := .free "zip") rfl))
    m_list := (He.free_ok X G (c.fact 62 (f := .free "list") rfl))
    m_reversed := (He.free_ok X G (c.fact 63 (f := .free "reversed") rfl))
    g_AWAY := (He.str_ok X G (c.fact 64 (f := .str "AWAY" "away") rfl))
    g_TAKEN := (He.str_ok X G (c.fact 65 (f := .str "TAKEN" "taken") rfl))
    g_SERVED := (He.str_ok X G (c.fact 66 (f := .str "SERVED" "served") rfl))
    g_NONE := (He.str_ok X G (c.fact 67 (f := .str "NONE" "none") rfl))
    g_TURNS := (He.str_ok X G (c.fact 68 (f := .str "TURNS" "turns") rfl))
    g_PLACES := ⟨_, (He.glo_ok X G (c.fact 48 (f := .glo "PLACES") rfl)), fun H => He.tupB_ok x H⟩ }
theorem tp_of {K : PySem.W.Frag} {h : Heap} {mg : Str → Option Value} (X : K.In h) (G : h.Ns mainGlobals mg) (c : He.SaysD fa fn K) : Tp K mg (He.ga K "Pairs") :=
  { cl := (He.cls_ok (c.fact 69 (f := .cls "Pairs") rfl))
    mgC := (He.glo_ok X G (c.fact 47 (f := .glo "Pairs") rfl))
    n_hall := (He.noat_ok (c.fact 74 (f := .noat "Pairs" "hall") rfl))
    n_one := (He.noat_ok (c.fact 75 (f := .noat "Pairs" "one") rfl))
    n_other := (He.noat_ok (c.fact 76 (f := .noat "Pairs" "other") rfl))
    n_line := (He.noat_ok (c.fact 77 (f := .noat "Pairs" "line") rfl))
    n_ahead_of := (He.noat_ok (c.fact 78 (f := .noat "Pairs" "ahead_of") rfl))
    n_least_of := (He.noat_ok (c.fact 79 (f := .noat "Pairs" "least_of") rfl)) }
theorem facts {P : Program} {w : World} {K : PySem.W.Frag} {h : Heap} {mg : Str → Option Value} {f : Addr} (X : K.In h) (G : h.Ns mainGlobals mg) (hfa : mg ("law" : Str) = some (.ref f)) (c : He.SaysD fa fn K) (x : exB K = true) :
    ∃ fd : FuncData, (∀ (s : Shared) (v : Value), BindsTo s fd ⟨[v], []⟩ [("_law_script", v)]) ∧ ∀ base : Heap, K.In base → base.Ns mainGlobals mg → FnOk P w K mg base CX0 14 f fd ["_law_script"] (sp_law P w K) := by
  have T := tx_of X G c x
  have TP := tp_of X G c
  obtain ⟨fd, F⟩ := c.def_ 50 (d := d_law) rfl
  have e := hfa.symm.trans (He.glo_ok X G (c.fact 46 (f := .glo "law") rfl))
  cases e
  have b := FunD.bindsA (ps := ["_law_script"]) F fun _ _ _ _ _ _ us hl => match us, hl with | [_], _ => rfl
  refine ⟨fd, fun s v => b s [v] rfl, fun base _ _ => ?_⟩
  obtain ⟨fd_common, F_common⟩ := c.def_ 1 (d := d_common) rfl
  have C_common := cl_common (P := P) (w := w) (base := base) T F_common (He.glo_ok X G (c.fact 1 (f := .glo "common") rfl))
  obtain ⟨fd_fraction_of, F_fraction_of⟩ := c.def_ 2 (d := d_fraction_of) rfl
  have C_fraction_of := cl_fraction_of (P := P) (w := w) (base := base) T F_fraction_of (He.glo_ok X G (c.fact 2 (f := .glo "fraction_of") rfl)) C_common
  obtain ⟨fd_divided, F_divided⟩ := c.def_ 3 (d := d_divided) rfl
  have C_divided := cl_divided (P := P) (w := w) (base := base) T F_divided (He.glo_ok X G (c.fact 3 (f := .glo "divided") rfl)) C_fraction_of
  obtain ⟨fd_is_less, F_is_less⟩ := c.def_ 4 (d := d_is_less) rfl
  have C_is_less := cl_is_less (P := P) (w := w) (base := base) T F_is_less (He.glo_ok X G (c.fact 4 (f := .glo "is_less") rfl))
  obtain ⟨fd_place_of, F_place_of⟩ := c.def_ 7 (d := d_place_of) rfl
  have C_place_of := cl_place_of (P := P) (w := w) (base := base) T F_place_of (He.glo_ok X G (c.fact 7 (f := .glo "place_of") rfl))
  obtain ⟨fd_shorter, F_shorter⟩ := c.def_ 8 (d := d_shorter) rfl
  have C_shorter := cl_shorter (P := P) (w := w) (base := base) T F_shorter (He.glo_ok X G (c.fact 8 (f := .glo "shorter") rfl))
  obtain ⟨fd_shortest, F_shortest⟩ := c.def_ 9 (d := d_shortest) rfl
  have C_shortest := cl_shortest (P := P) (w := w) (base := base) T F_shortest (He.glo_ok X G (c.fact 9 (f := .glo "shortest") rfl))
  obtain ⟨fd_quickest, F_quickest⟩ := c.def_ 10 (d := d_quickest) rfl
  have C_quickest := cl_quickest (P := P) (w := w) (base := base) T F_quickest (He.glo_ok X G (c.fact 10 (f := .glo "quickest") rfl)) C_divided C_is_less
  obtain ⟨fd_sent_to, F_sent_to⟩ := c.def_ 11 (d := d_sent_to) rfl
  have C_sent_to := cl_sent_to (P := P) (w := w) (base := base) T F_sent_to (He.glo_ok X G (c.fact 11 (f := .glo "sent_to") rfl)) C_place_of C_quickest C_shorter C_shortest
  obtain ⟨fd_is_whole, F_is_whole⟩ := c.def_ 0 (d := d_is_whole) rfl
  have C_is_whole := cl_is_whole (P := P) (w := w) (base := base) T F_is_whole (He.glo_ok X G (c.fact 0 (f := .glo "is_whole") rfl))
  obtain ⟨fd_is_line, F_is_line⟩ := c.def_ 6 (d := d_is_line) rfl
  have C_is_line := cl_is_line (P := P) (w := w) (base := base) T F_is_line (He.glo_ok X G (c.fact 6 (f := .glo "is_line") rfl)) C_is_whole
  obtain ⟨fd_is_alike, F_is_alike⟩ := c.def_ 5 (d := d_is_alike) rfl
  have C_is_alike := cl_is_alike (P := P) (w := w) (base := base) T F_is_alike (He.glo_ok X G (c.fact 5 (f := .glo "is_alike") rfl))
  obtain ⟨fd_first_stand, F_first_stand⟩ := c.def_ 12 (d := d_first_stand) rfl
  have C_first_stand := cl_first_stand (P := P) (w := w) (base := base) T F_first_stand (He.glo_ok X G (c.fact 12 (f := .glo "first_stand") rfl))
  obtain ⟨fd_lines_with, F_lines_with⟩ := c.def_ 16 (d := d_lines_with) rfl
  have C_lines_with := cl_lines_with (P := P) (w := w) (base := base) T F_lines_with (He.glo_ok X G (c.fact 16 (f := .glo "lines_with") rfl))
  obtain ⟨fd_are_lines, F_are_lines⟩ := c.def_ 13 (d := d_are_lines) rfl
  have C_are_lines := cl_are_lines (P := P) (w := w) (base := base) T F_are_lines (He.glo_ok X G (c.fact 13 (f := .glo "are_lines") rfl))
  obtain ⟨fd_is_stand, F_is_stand⟩ := c.def_ 14 (d := d_is_stand) rfl
  have C_is_stand := cl_is_stand (P := P) (w := w) (base := base) T F_is_stand (He.glo_ok X G (c.fact 14 (f := .glo "is_stand") rfl)) C_are_lines C_is_line
  obtain ⟨fd_shifts_of, F_shifts_of⟩ := c.def_ 17 (d := d_shifts_of) rfl
  have C_shifts_of := cl_shifts_of (P := P) (w := w) (base := base) T F_shifts_of (He.glo_ok X G (c.fact 17 (f := .glo "shifts_of") rfl)) C_lines_with
  obtain ⟨fd_asked, F_asked⟩ := c.def_ 18 (d := d_asked) rfl
  have C_asked := cl_asked (P := P) (w := w) (base := base) T F_asked (He.glo_ok X G (c.fact 18 (f := .glo "asked") rfl)) C_lines_with C_sent_to
  obtain ⟨fd_changed, F_changed⟩ := c.def_ 19 (d := d_changed) rfl
  have C_changed := cl_changed (P := P) (w := w) (base := base) T F_changed (He.glo_ok X G (c.fact 19 (f := .glo "changed") rfl)) C_asked C_lines_with
  obtain ⟨fd_moved_on, F_moved_on⟩ := c.def_ 20 (d := d_moved_on) rfl
  have C_moved_on := cl_moved_on (P := P) (w := w) (base := base) T F_moved_on (He.glo_ok X G (c.fact 20 (f := .glo "moved_on") rfl)) C_changed C_shifts_of
  obtain ⟨fd_all_orders, F_all_orders⟩ := c.def_ 15 (d := d_all_orders) rfl
  have C_all_orders := cl_all_orders (P := P) (w := w) (base := base) T F_all_orders (He.glo_ok X G (c.fact 15 (f := .glo "all_orders") rfl))
  obtain ⟨fd_all_moves, F_all_moves⟩ := c.def_ 22 (d := d_all_moves) rfl
  have C_all_moves := cl_all_moves (P := P) (w := w) (base := base) T F_all_moves (He.glo_ok X G (c.fact 22 (f := .glo "all_moves") rfl)) C_all_orders
  obtain ⟨fd_kept_lines, F_kept_lines⟩ := c.def_ 21 (d := d_kept_lines) rfl
  have C_kept_lines := cl_kept_lines (P := P) (w := w) (base := base) T F_kept_lines (He.glo_ok X G (c.fact 21 (f := .glo "kept_lines") rfl)) C_is_alike
  obtain ⟨fd_is_worse, F_is_worse⟩ := c.def_ 25 (d := d_is_worse) rfl
  have C_is_worse := cl_is_worse (P := P) (w := w) (base := base) T F_is_worse (He.glo_ok X G (c.fact 25 (f := .glo "is_worse") rfl))
  obtain ⟨fd_ask_rules, F_ask_rules⟩ := c.def_ 23 (d := d_ask_rules) rfl
  have C_ask_rules := cl_ask_rules (P := P) (w := w) (base := base) T F_ask_rules (He.glo_ok X G (c.fact 23 (f := .glo "ask_rules") rfl))
  obtain ⟨fd_both_moved, F_both_moved⟩ := c.def_ 24 (d := d_both_moved) rfl
  have C_both_moved := cl_both_moved (P := P) (w := w) (base := base) T F_both_moved (He.glo_ok X G (c.fact 24 (f := .glo "both_moved") rfl)) C_kept_lines C_moved_on
  obtain ⟨fd_are_kept, F_are_kept⟩ := c.def_ 26 (d := d_are_kept) rfl
  have C_are_kept := cl_are_kept (P := P) (w := w) (base := base) T F_are_kept (He.glo_ok X G (c.fact 26 (f := .glo "are_kept") rfl)) C_is_stand C_kept_lines
  obtain ⟨fd_is_triple, F_is_triple⟩ := c.def_ 27 (d := d_is_triple) rfl
  have C_is_triple := cl_is_triple (P := P) (w := w) (base := base) T F_is_triple (He.glo_ok X G (c.fact 27 (f := .glo "is_triple") rfl)) C_are_kept
  obtain ⟨fd_least_known, F_least_known⟩ := c.def_ 28 (d := d_least_known) rfl
  have C_least_known := cl_least_known (P := P) (w := w) (base := base) T F_least_known (He.glo_ok X G (c.fact 28 (f := .glo "least_known") rfl))
  obtain ⟨fd_is_closed, F_is_closed⟩ := c.def_ 29 (d := d_is_closed) rfl
  have C_is_closed := cl_is_closed (P := P) (w := w) (base := base) T F_is_closed (He.glo_ok X G (c.fact 29 (f := .glo "is_closed") rfl)) C_all_moves C_both_moved
  obtain ⟨fd_lets_never, F_lets_never⟩ := c.def_ 30 (d := d_lets_never) rfl
  have C_lets_never := cl_lets_never (P := P) (w := w) (base := base) T F_lets_never (He.glo_ok X G (c.fact 30 (f := .glo "lets_never") rfl)) C_ask_rules C_first_stand C_is_closed C_is_triple C_is_worse C_least_known
  obtain ⟨fd_Pairs_init, F_Pairs_init⟩ := c.def_ 31 (d := d_Pairs_init) rfl
  have MK_Pairs := mk_Pairs (P := P) (w := w) (base := base) T TP (He.mkr_ok (c.fact 70 (f := .mkr "Pairs") rfl)) F_Pairs_init C_first_stand
  obtain ⟨fd_Pairs_run_to, F_Pairs_run_to⟩ := c.def_ 32 (d := d_Pairs_run_to) rfl
  have M_run_to := mt_run_to (P := P) (w := w) (base := base) T TP (He.meth_ok (c.fact 71 (f := .meth "Pairs" "run_to") rfl)) F_Pairs_run_to 
  obtain ⟨fd_Pairs_met, F_Pairs_met⟩ := c.def_ 33 (d := d_Pairs_met) rfl
  have M_met := mt_met (P := P) (w := w) (base := base) T TP (He.meth_ok (c.fact 72 (f := .meth "Pairs" "met") rfl)) F_Pairs_met 
  obtain ⟨fd_Pairs_worse_run, F_Pairs_worse_run⟩ := c.def_ 34 (d := d_Pairs_worse_run) rfl
  have M_worse_run := mt_worse_run (P := P) (w := w) (base := base) T TP (He.meth_ok (c.fact 73 (f := .meth "Pairs" "worse_run") rfl)) F_Pairs_worse_run C_all_moves C_both_moved C_is_worse M_run_to M_met
  obtain ⟨fd_never_worse, F_never_worse⟩ := c.def_ 35 (d := d_never_worse) rfl
  have C_never_worse := cl_never_worse (P := P) (w := w) (base := base) T F_never_worse (He.glo_ok X G (c.fact 31 (f := .glo "never_worse") rfl)) C_ask_rules TP MK_Pairs M_worse_run
  obtain ⟨fd__law_tape, F__law_tape⟩ := c.def_ 36 (d := d__law_tape) rfl
  have C__law_tape := cl__law_tape (P := P) (w := w) (base := base) T F__law_tape (He.glo_ok X G (c.fact 32 (f := .glo "_law_tape") rfl))
  obtain ⟨fd__law_draw, F__law_draw⟩ := c.def_ 37 (d := d__law_draw) rfl
  have C__law_draw := cl__law_draw (P := P) (w := w) (base := base) T F__law_draw (He.glo_ok X G (c.fact 33 (f := .glo "_law_draw") rfl))
  obtain ⟨fd__law_frac, F__law_frac⟩ := c.def_ 38 (d := d__law_frac) rfl
  have C__law_frac := cl__law_frac (P := P) (w := w) (base := base) T F__law_frac (He.glo_ok X G (c.fact 34 (f := .glo "_law_frac") rfl))
  obtain ⟨fd__law_put, F__law_put⟩ := c.def_ 41 (d := d__law_put) rfl
  have C__law_put := cl__law_put (P := P) (w := w) (base := base) T F__law_put (He.glo_ok X G (c.fact 37 (f := .glo "_law_put") rfl))
  obtain ⟨fd__law_kept, F__law_kept⟩ := c.def_ 43 (d := d__law_kept) rfl
  have C__law_kept := cl__law_kept (P := P) (w := w) (base := base) T F__law_kept (He.glo_ok X G (c.fact 39 (f := .glo "_law_kept") rfl))
  obtain ⟨fd__law_all_lines, F__law_all_lines⟩ := c.def_ 39 (d := d__law_all_lines) rfl
  have C__law_all_lines := cl__law_all_lines (P := P) (w := w) (base := base) T F__law_all_lines (He.glo_ok X G (c.fact 35 (f := .glo "_law_all_lines") rfl))
  obtain ⟨fd__law_moves, F__law_moves⟩ := c.def_ 44 (d := d__law_moves) rfl
  have C__law_moves := cl__law_moves (P := P) (w := w) (base := base) T F__law_moves (He.glo_ok X G (c.fact 40 (f := .glo "_law_moves") rfl))
  obtain ⟨fd__law_sent, F__law_sent⟩ := c.def_ 40 (d := d__law_sent) rfl
  have C__law_sent := cl__law_sent (P := P) (w := w) (base := base) T F__law_sent (He.glo_ok X G (c.fact 36 (f := .glo "_law_sent") rfl)) C__law_all_lines
  obtain ⟨fd__law_step, F__law_step⟩ := c.def_ 42 (d := d__law_step) rfl
  have C__law_step := cl__law_step (P := P) (w := w) (base := base) T F__law_step (He.glo_ok X G (c.fact 38 (f := .glo "_law_step") rfl)) C__law_put C__law_sent
  obtain ⟨fd__law_both, F__law_both⟩ := c.def_ 45 (d := d__law_both) rfl
  have C__law_both := cl__law_both (P := P) (w := w) (base := base) T F__law_both (He.glo_ok X G (c.fact 41 (f := .glo "_law_both") rfl)) C__law_kept C__law_step
  obtain ⟨fd__law_is_never, F__law_is_never⟩ := c.def_ 48 (d := d__law_is_never) rfl
  have C__law_is_never := cl__law_is_never (P := P) (w := w) (base := base) T F__law_is_never (He.glo_ok X G (c.fact 44 (f := .glo "_law_is_never") rfl)) C_lets_never C_never_worse
  obtain ⟨fd__law_told_rule, F__law_told_rule⟩ := c.def_ 47 (d := d__law_told_rule) rfl
  have C__law_told_rule := cl__law_told_rule (P := P) (w := w) (base := base) T F__law_told_rule (He.glo_ok X G (c.fact 43 (f := .glo "_law_told_rule") rfl)) C__law_all_lines C__law_draw
  obtain ⟨fd__law_alike_hall, F__law_alike_hall⟩ := c.def_ 46 (d := d__law_alike_hall) rfl
  have C__law_alike_hall := cl__law_alike_hall (P := P) (w := w) (base := base) T F__law_alike_hall (He.glo_ok X G (c.fact 42 (f := .glo "_law_alike_hall") rfl)) C__law_all_lines C__law_draw C__law_frac
  obtain ⟨fd__law_as_many, F__law_as_many⟩ := c.def_ 49 (d := d__law_as_many) rfl
  have C__law_as_many := cl__law_as_many (P := P) (w := w) (base := base) T F__law_as_many (He.glo_ok X G (c.fact 45 (f := .glo "_law_as_many") rfl)) C__law_both C__law_draw C__law_moves
  exact ok_law (P := P) (w := w) (base := base) T F C__law_alike_hall C__law_as_many C__law_is_never C__law_tape C__law_told_rule C_never_worse
end K58
open PySem PySem.W PySem.Calls PyProof.Rows
theorem PySem.Challenge.cw_shorterline_k58_whole_alike_halls_holds : PySem.Challenge.rw_shorterline_k58_whole_alike_halls.Holds := by
  w_on; o_law
  refine HandSHeadRun.head_any (r := OpenLaw.row PySem.Challenge.rw_shorterline_k58_whole_alike_halls) (q := view (OpenLaw.row PySem.Challenge.rw_shorterline_k58_whole_alike_halls).prog [65]) (H := K58.hkP) (ob := K58.obP) (M := 3000) (loose := K58.names) (d := HandSHeadRun.topDef (OpenLaw.row PySem.Challenge.rw_shorterline_k58_whole_alike_halls).prog 65) (kwd := []) K58.obP_eq
    (by kernel_rfl) (fun s => by kernel_rfl) K58.run (by kernel_rfl) (by kernel_rfl) (by kernel_rfl) (by rfl) (by first | assumption | decide +kernel) (by decide +kernel) ⟨rfl, rfl, rfl, rfl, rfl, by decide +kernel⟩ ?hw ?hc
  case hw => w_witness2
  case hc =>
    refine L2.walk_ofE (l := PySem.Challenge.rw_shorterline_k58_whole_alike_halls) (n := 63) (k := 14) (x := "_law_script") (CX := L2.CX0) rfl (by decide) (by kernel_rfl) ⟨rfl, by decide, by decide⟩ ?F (fun _ _ _ _ z => z)
    intro w mg fa h Y G hmg0
    obtain ⟨K, KX, c, x⟩ := Y
    have hmg : mg ("law" : PySem.Str) = some (.ref fa) := by
      have e : (HandSHeadRun.topDef (OpenLaw.row PySem.Challenge.rw_shorterline_k58_whole_alike_halls).prog 65).name = ("law" : PySem.Str) := by kernel_rfl
      rw [← e]
      exact hmg0
    obtain ⟨fd, hb, hF⟩ := K58.facts (P := (PySem.Challenge.rw_shorterline_k58_whole_alike_halls).prog) (w := w) KX G hmg c x
    exact ⟨K, fd, K58.sp_law _ w K, KX, hb, fun H a ns hl _ hS => ⟨rfl, a, ns, rfl, hS, hl, fun _ => rfl⟩, hF⟩
