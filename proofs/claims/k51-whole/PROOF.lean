import PyProof.Rows.All
import Wide.All
import OpenK.AllK
import Wide.FinOn
import HandS.HeadHook1
import HandS.HeadHook2
import KE.KStateDown
import HandS.Base
import HandS.Call
import HandS.Ends
import HandS.More
import HandS.Words
import HandS.WordsExc
import HandS.Defaults
import HandS.Codes
import HandS.Head0
import HandS.Head1
import HandS.Head2
import HandS.HeadEnd
import KE.KDictSum
import KE.KDictList
import HandS.ForMost
import HandS.Wide
import HandS.WideBits
import HandS.IsInst
import HandS.DictComp
import HandS.SetKeys
import HandS.Deep
import HandS.Walk
import HandS.Set
import HandS.Exc
import HandS.Rev
import KE.GoesEnum
import HandS.Strs
import HandS.SetFor
import PySem.Challenge.RW_marktruly_k51_whole_every_marking_witnes
set_option Elab.async false
set_option linter.all false
set_option maxRecDepth 100000
set_option exponentiation.threshold 10000
set_option maxHeartbeats 4000000
/-! Determinants of lists of vectors, core Lean alone. -/
namespace MK
abbrev Vec := Nat → Int
/-- expansion along the coordinate n, the signs alternating from the head of the second list -/
def ex (f : List Vec → Int) (n : Nat) : List Vec → List Vec → Int
  | _, [] => 0
  | pre, v :: post => v n * f (pre ++ post) - ex f n (pre ++ [v]) post
def det : Nat → List Vec → Int
  | 0, _ => 1
  | n + 1, l => ex (det n) n [] l

theorem ex_nil (f n pre) : ex f n pre [] = 0 := rfl
theorem ex_cons (f n pre v post) : ex f n pre (v :: post) = v n * f (pre ++ post) - ex f n (pre ++ [v]) post := rfl

/-! ### linear in each place -/
section
variable {c : Int} {x y z : Vec} {f : List Vec → Int} {n : Nat}
theorem ex_lin_pre (hf : ∀ a b : List Vec, a.length + b.length + 1 = n → f (a ++ z :: b) = c * f (a ++ x :: b) + f (a ++ y :: b)) :
    ∀ (post p1 p2 : List Vec), p1.length + p2.length + 1 + post.length = n + 1 →
      ex f n (p1 ++ z :: p2) post = c * ex f n (p1 ++ x :: p2) post + ex f n (p1 ++ y :: p2) post := by
  intro post
  induction post with
  | nil => intro p1 p2 _; simp [ex_nil]
  | cons v post ih =>
    intro p1 p2 h
    simp only [ex_cons, List.append_assoc, List.cons_append]
    have h1 := hf p1 (p2 ++ post) (by simp at h ⊢; omega)
    have h2 := ih p1 (p2 ++ [v]) (by simp at h ⊢; omega)
    rw [h1, h2]
    grind
theorem ex_lin_post (hz : ∀ k, z k = c * x k + y k) (hf : ∀ a b : List Vec, a.length + b.length + 1 = n → f (a ++ z :: b) = c * f (a ++ x :: b) + f (a ++ y :: b)) :
    ∀ (q1 pre q2 : List Vec), pre.length + q1.length + 1 + q2.length = n + 1 →
      ex f n pre (q1 ++ z :: q2) = c * ex f n pre (q1 ++ x :: q2) + ex f n pre (q1 ++ y :: q2) := by
  intro q1
  induction q1 with
  | nil =>
    intro pre q2 h
    simp only [List.nil_append, ex_cons]
    have h2 := ex_lin_pre (c := c) (x := x) (y := y) (z := z) hf q2 pre [] (by simp at h ⊢; omega)
    rw [h2, hz n]
    grind
  | cons v q1 ih =>
    intro pre q2 h
    simp only [List.cons_append, ex_cons]
    have h1 := hf (pre ++ q1) q2 (by simp at h ⊢; omega)
    have h2 := ih (pre ++ [v]) q2 (by simp at h ⊢; omega)
    simp only [List.append_assoc] at h1
    rw [h1, h2]
    grind
end
theorem det_lin {c : Int} {x y z : Vec} (hz : ∀ k, z k = c * x k + y k) : ∀ (n : Nat) (a b : List Vec), a.length + b.length + 1 = n → det n (a ++ z :: b) = c * det n (a ++ x :: b) + det n (a ++ y :: b)
  | 0, a, b, h => by omega
  | n + 1, a, b, h => by
    have := ex_lin_post (f := det n) (n := n) hz (det_lin hz n) a [] b (by simp; omega)
    exact this
theorem det_zero : ∀ (n : Nat) (a b : List Vec), a.length + b.length + 1 = n → det n (a ++ (fun _ => 0) :: b) = 0 := fun n a b h => by
  have := det_lin (c := -1) (x := fun _ => 0) (y := fun _ => 0) (z := fun _ => 0) (by simp) n a b h
  grind

/-! ### alternating -/
section
variable {x y : Vec} {f : List Vec → Int} {n : Nat}
theorem ex_swap_pre (hf : ∀ a b : List Vec, a.length + b.length + 2 = n → f (a ++ x :: y :: b) = - f (a ++ y :: x :: b)) :
    ∀ (post p1 p2 : List Vec), p1.length + p2.length + 2 + post.length = n + 1 →
      ex f n (p1 ++ x :: y :: p2) post = - ex f n (p1 ++ y :: x :: p2) post := by
  intro post
  induction post with
  | nil => intro p1 p2 _; simp [ex_nil]
  | cons v post ih =>
    intro p1 p2 h
    simp only [ex_cons, List.append_assoc, List.cons_append]
    have h1 := hf p1 (p2 ++ post) (by simp at h ⊢; omega)
    have h2 := ih p1 (p2 ++ [v]) (by simp at h ⊢; omega)
    rw [h1, h2]
    grind
theorem ex_swap_post (hf : ∀ a b : List Vec, a.length + b.length + 2 = n → f (a ++ x :: y :: b) = - f (a ++ y :: x :: b)) :
    ∀ (q1 pre q2 : List Vec), pre.length + q1.length + 2 + q2.length = n + 1 →
      ex f n pre (q1 ++ x :: y :: q2) = - ex f n pre (q1 ++ y :: x :: q2) := by
  intro q1
  induction q1 with
  | nil =>
    intro pre q2 h
    simp only [List.nil_append, ex_cons, List.append_assoc, List.cons_append]
    have h2 := ex_swap_pre hf q2 pre [] (by simp at h ⊢; omega)
    have e1 : pre ++ x :: y :: [] = pre ++ [x, y] := rfl
    rw [h2]
    grind
  | cons v q1 ih =>
    intro pre q2 h
    simp only [List.cons_append, ex_cons]
    have h1 := hf (pre ++ q1) q2 (by simp at h ⊢; omega)
    have h2 := ih (pre ++ [v]) q2 (by simp at h ⊢; omega)
    simp only [List.append_assoc] at h1
    rw [h1, h2]
    grind
end
theorem det_swap {x y : Vec} : ∀ (n : Nat) (a b : List Vec), a.length + b.length + 2 = n → det n (a ++ x :: y :: b) = - det n (a ++ y :: x :: b)
  | 0, a, b, h => by omega
  | n + 1, a, b, h => by
    have := ex_swap_post (f := det n) (n := n) (x := x) (y := y) (det_swap n) a [] b (by simp; omega)
    exact this
theorem det_same {x : Vec} (n : Nat) (b : List Vec) : ∀ (c a : List Vec), a.length + c.length + b.length + 2 = n → det n (a ++ x :: (c ++ x :: b)) = 0 := by
  intro c
  induction c with
  | nil =>
    intro a h
    have := det_swap (x := x) (y := x) n a b (by simp at h ⊢; omega)
    simp only [List.nil_append]
    omega
  | cons v c ih =>
    intro a h
    have h1 := det_swap (x := x) (y := v) n a (c ++ x :: b) (by simp at h ⊢; omega)
    have h2 := ih (a ++ [v]) (by simp at h ⊢; omega)
    simp only [List.append_assoc, List.cons_append, List.nil_append] at h2
    simp only [List.cons_append]
    rw [h1, h2]; rfl

/-! ### by places -/
theorem set_split {l : List Vec} {i : Nat} (h : i < l.length) (v : Vec) : l.set i v = l.take i ++ v :: l.drop (i + 1) := by
  rw [List.set_eq_take_append_cons_drop, if_pos h]
theorem det_set_lin {n : Nat} {l : List Vec} {i : Nat} {c : Int} {x y z : Vec} (hl : l.length = n) (h : i < n) (hz : ∀ k, z k = c * x k + y k) :
    det n (l.set i z) = c * det n (l.set i x) + det n (l.set i y) := by
  subst hl
  rw [set_split h, set_split h, set_split h]
  exact det_lin hz _ _ _ (by simp; omega)
theorem det_set_zero {n : Nat} {l : List Vec} {i : Nat} (hl : l.length = n) (h : i < n) : det n (l.set i fun _ => 0) = 0 := by
  subst hl
  rw [set_split h]
  exact det_zero _ _ _ (by simp; omega)
theorem det_two {n : Nat} {l : List Vec} {i j : Nat} {x : Vec} (hl : l.length = n) (h : i < j) (hi : l[i]? = some x) (hj : l[j]? = some x) : det n l = 0 := by
  have hj' : j < l.length := (List.getElem?_eq_some_iff.mp hj).1
  have hi' : i < l.length := by omega
  have ei : l[i] = x := by rw [List.getElem?_eq_getElem hi'] at hi; exact Option.some.inj hi
  have ej : l[j] = x := by rw [List.getElem?_eq_getElem hj'] at hj; exact Option.some.inj hj
  have e : l = l.take i ++ x :: ((l.take j).drop (i + 1) ++ x :: l.drop (j + 1)) := by
    have e1 : l = l.take j ++ l.drop j := (List.take_append_drop j l).symm
    have e2 : l.drop j = x :: l.drop (j + 1) := by rw [← ej]; exact List.drop_eq_getElem_cons hj'
    have e3 : l.take j = (l.take j).take i ++ (l.take j).drop i := (List.take_append_drop i _).symm
    have hij : i < (l.take j).length := by rw [List.length_take]; omega
    have e4 : (l.take j).drop i = x :: (l.take j).drop (i + 1) := by
      have := List.drop_eq_getElem_cons hij
      rw [this, List.getElem_take, ei]
    have e5 : (l.take j).take i = l.take i := by rw [List.take_take]; congr 1; omega
    rw [e4, e5] at e3
    rw [e2] at e1
    rw [e3] at e1
    simpa using e1
  rw [e]
  exact det_same _ _ _ _ (by simp; omega)
theorem det_two' {n : Nat} {l : List Vec} {i j : Nat} {x : Vec} (hl : l.length = n) (h : i ≠ j) (hi : l[i]? = some x) (hj : l[j]? = some x) : det n l = 0 := by
  rcases Nat.lt_or_gt_of_ne h with h | h
  · exact det_two hl h hi hj
  · exact det_two hl h hj hi
/-- two places exchanged -/
theorem det_exch {n : Nat} {l : List Vec} {i j : Nat} {x y : Vec} (hl : l.length = n) (hi : i < n) (hj : j < n) (h : i ≠ j) :
    det n ((l.set i x).set j y) = - det n ((l.set i y).set j x) := by
  have two : ∀ v : Vec, det n ((l.set i v).set j v) = 0 := fun v =>
    det_two' (i := i) (j := j) (x := v) (by simp [hl]) h (by rw [List.getElem?_set_ne h.symm, List.getElem?_set_self (by omega)]) (by rw [List.getElem?_set_self (by simp; omega)])
  have key := two (fun k => 1 * x k + y k)
  rw [det_set_lin (c := 1) (x := x) (y := y) (by simp [hl]) hj (fun _ => rfl)] at key
  rw [List.set_comm _ _ h, List.set_comm _ _ h] at key
  rw [det_set_lin (c := 1) (x := x) (y := y) (by simp [hl]) hi (fun _ => rfl), det_set_lin (c := 1) (x := x) (y := y) (by simp [hl]) hi (fun _ => rfl)] at key
  have a1 := two x
  have a2 := two y
  rw [List.set_comm _ _ h] at a1 a2
  rw [List.set_comm _ _ h, List.set_comm (l := l) _ _ h]
  rw [a1, a2] at key
  omega

/-! ### sums -/
def sm : Nat → (Nat → Int) → Int
  | 0, _ => 0
  | n + 1, f => sm n f + f n
theorem sm_congr {f g : Nat → Int} : ∀ (n : Nat), (∀ i, i < n → f i = g i) → sm n f = sm n g
  | 0, _ => rfl
  | n + 1, h => by show sm n f + f n = sm n g + g n; rw [sm_congr n fun i hi => h i (by omega), h n (by omega)]
theorem sm_add (f g : Nat → Int) : ∀ n, sm n (fun i => f i + g i) = sm n f + sm n g
  | 0 => rfl
  | n + 1 => by show sm n (fun i => f i + g i) + (f n + g n) = (sm n f + f n) + (sm n g + g n); rw [sm_add f g n]; omega
theorem sm_mul (c : Int) (f : Nat → Int) : ∀ n, sm n (fun i => c * f i) = c * sm n f
  | 0 => by simp [sm]
  | n + 1 => by show sm n _ + _ = c * (sm n f + f n); rw [sm_mul c f n]; grind
theorem sm_zero {f : Nat → Int} (n : Nat) (h : ∀ i, i < n → f i = 0) : sm n f = 0 := by
  induction n with
  | zero => rfl
  | succ n ih => show sm n f + f n = 0; rw [ih fun i hi => h i (by omega), h n (by omega)]; rfl
theorem sm_one {f : Nat → Int} {k : Nat} : ∀ (n : Nat), k < n → (∀ i, i < n → i ≠ k → f i = 0) → sm n f = f k
  | 0, h, _ => by omega
  | n + 1, h, z => by
    show sm n f + f n = f k
    by_cases e : n = k
    · subst e; rw [sm_zero n fun i hi => z i (by omega) (by omega)]; omega
    · rw [sm_one n (by omega) fun i hi => z i (by omega), z n (by omega) e]; omega
theorem sm_two {f : Nat → Int} {k l : Nat} (hkl : k ≠ l) : ∀ (n : Nat), k < n → l < n → (∀ i, i < n → i ≠ k → i ≠ l → f i = 0) → sm n f = f k + f l
  | 0, h, _, _ => by omega
  | n + 1, h, h', z => by
    show sm n f + f n = f k + f l
    by_cases e : n = k
    · subst e; rw [sm_one (k := l) n (by omega) fun i hi hl => z i (by omega) (by omega) hl]; omega
    · by_cases e' : n = l
      · subst e'; rw [sm_one (k := k) n (by omega) fun i hi hk => z i (by omega) hk (by omega)]
      · rw [sm_two hkl n (by omega) (by omega) fun i hi => z i (by omega), z n (by omega) e e']; omega
theorem sm_comm (f : Nat → Nat → Int) (m : Nat) : ∀ n, sm n (fun i => sm m (f i)) = sm m (fun j => sm n fun i => f i j)
  | 0 => (sm_zero m fun _ _ => rfl).symm
  | n + 1 => by
    show sm n _ + sm m (f n) = sm m fun j => sm n (fun i => f i j) + f n j
    rw [sm_comm f m n, sm_add]
theorem sm_le {f g : Nat → Int} : ∀ (n : Nat), (∀ i, i < n → f i ≤ g i) → sm n f ≤ sm n g
  | 0, _ => Int.le_refl _
  | n + 1, h => by
    show sm n f + f n ≤ sm n g + g n
    have := sm_le n fun i hi => h i (by omega)
    have := h n (by omega)
    omega
theorem sm_nonneg {f : Nat → Int} (n : Nat) (h : ∀ i, i < n → 0 ≤ f i) : 0 ≤ sm n f := by
  have := sm_le (f := fun _ => 0) (g := f) n h
  rw [sm_zero n fun _ _ => rfl] at this
  exact this
theorem sm_pos_ex {f : Nat → Int} : ∀ (n : Nat), 0 < sm n f → ∃ i, i < n ∧ 0 < f i
  | 0, h => by simp [sm] at h
  | n + 1, h => by
    have h' : 0 < sm n f + f n := h
    by_cases e : 0 < f n
    · exact ⟨n, by omega, e⟩
    · obtain ⟨i, hi, z⟩ := sm_pos_ex n (by omega : 0 < sm n f)
      exact ⟨i, by omega, z⟩
theorem sm_append (f : Nat → Int) (m : Nat) : ∀ n, sm (m + n) f = sm m f + sm n fun i => f (m + i)
  | 0 => by simp [sm]
  | n + 1 => by
    show sm (m + n) f + f (m + n) = _
    rw [sm_append f m n]
    show _ = sm m f + (sm n (fun i => f (m + i)) + f (m + n))
    omega

/-- a sum of vectors at a place -/
theorem det_set_sum {n : Nat} {l : List Vec} {i : Nat} (hl : l.length = n) (h : i < n) (x : Nat → Int) (u : Nat → Vec) :
    ∀ m, det n (l.set i fun k => sm m fun j => x j * u j k) = sm m fun j => x j * det n (l.set i (u j))
  | 0 => by show det n (l.set i fun _ => 0) = 0; exact det_set_zero hl h
  | m + 1 => by
    rw [det_set_lin (c := x m) (x := u m) (y := fun k => sm m fun j => x j * u j k) hl h (fun k => by show sm m (fun j => x j * u j k) + x m * u m k = _; omega), det_set_sum hl h x u m]
    show _ = sm m (fun j => x j * det n (l.set i (u j))) + x m * det n (l.set i (u m))
    omega
theorem det_set_mul {n : Nat} {l : List Vec} {i : Nat} (hl : l.length = n) (h : i < n) (c : Int) (u : Vec) : det n (l.set i fun k => c * u k) = c * det n (l.set i u) := by
  rw [det_set_lin (c := c) (x := u) (y := fun _ => 0) hl h (fun k => by omega), det_set_zero hl h]; omega
/-- only the first n coordinates matter -/
theorem ex_congr {f : List Vec → Int} {n : Nat} : ∀ (post post' pre pre' : List Vec), post.length = post'.length →
    (∀ (i : Nat) (v v' : Vec), post[i]? = some v → post'[i]? = some v' → v n = v' n) →
    (∀ i, f (pre ++ post.eraseIdx i) = f (pre' ++ post'.eraseIdx i)) → ex f n pre post = ex f n pre' post'
  | [], [], _, _, _, _, _ => rfl
  | [], _ :: _, _, _, h, _, _ => by simp at h
  | _ :: _, [], _, _, h, _, _ => by simp at h
  | v :: post, v' :: post', pre, pre', h, hv, hf => by
    rw [ex_cons, ex_cons, hv 0 v v' rfl rfl]
    have h0 := hf 0
    simp only [List.eraseIdx_cons_zero] at h0
    rw [h0]
    rw [ex_congr post post' (pre ++ [v]) (pre' ++ [v']) (by simpa using h) (fun i a b ha hb => hv (i + 1) a b (by simpa using ha) (by simpa using hb)) (fun i => by simpa using hf (i + 1))]
def Alike (n : Nat) (l l' : List Vec) : Prop := l.length = l'.length ∧ ∀ (i : Nat) (v v' : Vec), l[i]? = some v → l'[i]? = some v' → ∀ k, k < n → v k = v' k
theorem Alike.erase {n : Nat} {l l' : List Vec} (h : Alike n l l') (i : Nat) : Alike n (l.eraseIdx i) (l'.eraseIdx i) := by
  refine ⟨by rw [List.length_eraseIdx, List.length_eraseIdx, h.1], fun j v v' e e' k hk => ?_⟩
  rw [List.getElem?_eraseIdx] at e e'
  split at e
  · rename_i hj
    rw [if_pos hj] at e'
    exact h.2 j v v' e e' k hk
  · rename_i hj
    rw [if_neg hj] at e'
    exact h.2 (j + 1) v v' e e' k hk
theorem det_congr : ∀ (n : Nat) (l l' : List Vec), Alike n l l' → det n l = det n l'
  | 0, _, _, _ => rfl
  | n + 1, l, l', h => by
    refine ex_congr l l' [] [] h.1 (fun i v v' e e' => h.2 i v v' e e' n (by omega)) (fun i => ?_)
    have := h.erase i
    exact det_congr n _ _ ⟨this.1, fun j v v' e e' k hk => this.2 j v v' e e' k (by omega)⟩
theorem det_set_congr {n : Nat} {l : List Vec} {i : Nat} {x y : Vec} (h : ∀ k, k < n → x k = y k) : det n (l.set i x) = det n (l.set i y) := by
  refine det_congr n _ _ ⟨by simp, fun j v v' e e' k hk => ?_⟩
  by_cases hj : j = i
  · subst hj
    by_cases hl : j < l.length
    · rw [List.getElem?_set_self hl] at e e'
      cases e; cases e'; exact h k hk
    · rw [List.getElem?_eq_none (by simp; omega)] at e; cases e
  · rw [List.getElem?_set_ne (Ne.symm hj)] at e e'
    rw [e] at e'; cases e'; rfl

/-! ### the unit vectors -/
def unit (i : Nat) : Vec := fun k => if k = i then 1 else 0
theorem ex_last {f : List Vec → Int} {n : Nat} {v : Vec} : ∀ (q pre : List Vec), (∀ u ∈ q, u n = 0) → ∃ s : Int, s * s = 1 ∧ ex f n pre (q ++ [v]) = s * (v n * f (pre ++ q))
  | [], pre, _ => ⟨1, by omega, by simp [ex_cons, ex_nil]⟩
  | u :: q, pre, h => by
    obtain ⟨s, hs, e⟩ := ex_last (f := f) (v := v) q (pre ++ [u]) fun w hw => h w (List.mem_cons_of_mem _ hw)
    refine ⟨-s, by grind, ?_⟩
    rw [List.cons_append, ex_cons, e, h u List.mem_cons_self]
    simp only [List.append_assoc, List.cons_append, List.nil_append]
    grind
theorem det_unit : ∀ n, ∃ s : Int, s * s = 1 ∧ det n ((List.range n).map unit) = s
  | 0 => ⟨1, by omega, rfl⟩
  | n + 1 => by
    obtain ⟨s, hs, e⟩ := det_unit n
    rw [List.range_succ, List.map_append, List.map_cons, List.map_nil]
    obtain ⟨t, ht, e'⟩ := ex_last (f := det n) (n := n) (v := unit n) ((List.range n).map unit) [] (fun u hu => by
      obtain ⟨i, hi, rfl⟩ := List.mem_map.mp hu
      have : i < n := List.mem_range.mp hi
      show (if n = i then (1 : Int) else 0) = 0
      rw [if_neg (by omega)])
    refine ⟨t * s, by grind, ?_⟩
    show ex (det n) n [] _ = _
    rw [e', List.nil_append, e]
    show t * ((if n = n then (1 : Int) else 0) * s) = _
    rw [if_pos rfl]; grind

/-! ### how large -/
def fact : Nat → Nat
  | 0 => 1
  | n + 1 => (n + 1) * fact n
theorem ex_le {f : List Vec → Int} {n : Nat} {c : Vec → Nat} {F : Nat} (P : Nat) (hc : ∀ v : Vec, True)
    : ∀ (post pre : List Vec), (∀ v ∈ pre ++ post, (v n).natAbs ≤ c v) → ((pre ++ post).map c).foldr (· * ·) 1 = P →
      (∀ l : List Vec, l.length + 1 = pre.length + post.length → (∀ v ∈ l, v ∈ pre ++ post) → (f l).natAbs ≤ F * (l.map c).foldr (· * ·) 1) → (ex f n pre post).natAbs ≤ post.length * (F * P)
  | [], _, _, _, _ => by simp [ex_nil]
  | v :: post, pre, hv, hP, hf => by
    rw [ex_cons]
    have h1 := hf (pre ++ post) (by simp; omega) (fun u hu => by
      rcases List.mem_append.mp hu with h | h
      · exact List.mem_append_left _ h
      · exact List.mem_append_right _ (List.mem_cons_of_mem _ h))
    have h2 := ex_le (f := f) (n := n) (c := c) (F := F) P hc post (pre ++ [v]) (by simpa using hv) (by simpa using hP) (by
      intro l hl hm
      exact hf l (by simp at hl ⊢; omega) (fun u hu => by simpa using hm u hu))
    have h3 : (v n).natAbs ≤ c v := hv v (by simp)
    have mulFold : ∀ (a b : List Nat), (a ++ b).foldr (· * ·) 1 = a.foldr (· * ·) 1 * b.foldr (· * ·) 1 := by
      intro a b
      induction a with
      | nil => simp
      | cons x a ih => simp only [List.cons_append, List.foldr_cons, ih, Nat.mul_assoc]
    have e : P = c v * ((pre ++ post).map c).foldr (· * ·) 1 := by
      rw [← hP]
      simp only [List.map_append, List.map_cons, mulFold, List.foldr_cons]
      generalize (pre.map c).foldr (· * ·) 1 = A
      generalize (post.map c).foldr (· * ·) 1 = B
      rw [Nat.mul_left_comm]
    have h4 : (v n * f (pre ++ post)).natAbs ≤ F * P := by
      rw [Int.natAbs_mul, e]
      refine Nat.le_trans (Nat.mul_le_mul h3 h1) ?_
      rw [Nat.mul_left_comm]
      exact Nat.le_refl _
    have h5 : (v n * f (pre ++ post) - ex f n (pre ++ [v]) post).natAbs ≤ F * P + post.length * (F * P) := by omega
    refine Nat.le_trans h5 ?_
    simp only [List.length_cons, Nat.add_mul]
    omega
def prodC (c : Vec → Nat) (l : List Vec) : Nat := (l.map c).foldr (· * ·) 1
theorem det_le {c : Vec → Nat} : ∀ (n : Nat) (l : List Vec), l.length = n → (∀ v ∈ l, ∀ k, k < n → (v k).natAbs ≤ c v) → (det n l).natAbs ≤ fact n * prodC c l
  | 0, l, h, _ => by
    have : l = [] := List.length_eq_zero_iff.mp h
    subst this
    simp [det, fact, prodC]
  | n + 1, l, h, hv => by
    have := ex_le (f := det n) (n := n) (c := c) (F := fact n) (prodC c l) (fun _ => trivial) l [] (fun v hm => hv v (by simpa using hm) n (by omega)) rfl (fun l' hl' hm => det_le n l' (by simp at hl'; omega) fun v hm' k hk => hv v (by simpa using hm v hm') k (by omega))
    refine Nat.le_trans this ?_
    rw [h]
    show _ ≤ (n + 1) * fact n * _
    rw [Nat.mul_assoc]
    exact Nat.le_refl _
end MK
set_option maxHeartbeats 4000000
/-! The exchange step over integers: exact divisions, what stays. Core Lean alone. -/
namespace MK
def col (A : Nat → Nat → Int) (j : Nat) : Vec := fun k => A k j
/-- the vector of row i: the column of its basic variable; of the last row: the last unit vector -/
def bv (A : Nat → Nat → Int) (m : Nat) (B : Nat → Nat) (i : Nat) : Vec := if i < m then col A (B i) else unit m
def bl (A : Nat → Nat → Int) (m : Nat) (B : Nat → Nat) : List Vec := (List.range (m + 1)).map (bv A m B)
def updB (B : Nat → Nat) (r c : Nat) : Nat → Nat := fun i => if i = r then c else B i
section
variable {A : Nat → Nat → Int} {m n kx : Nat} {B : Nat → Nat} {T T' : Nat → Nat → Int} {d s : Int}
theorem bl_len : (bl A m B).length = m + 1 := by simp [bl]
theorem bl_get {i : Nat} (h : i < m + 1) : (bl A m B)[i]? = some (bv A m B i) := by
  rw [bl, List.getElem?_map, List.getElem?_range h]; rfl
theorem bl_upd {r c : Nat} (h : r < m) : bl A m (updB B r c) = (bl A m B).set r (col A c) := by
  apply List.ext_getElem?
  intro i
  by_cases hi : i < m + 1
  · rw [bl_get hi]
    by_cases e : i = r
    · subst e
      rw [List.getElem?_set_self (by rw [bl_len]; exact hi)]
      simp [bv, updB, h]
    · rw [List.getElem?_set_ne (Ne.symm e), bl_get hi]
      simp [bv, updB, e]
  · rw [List.getElem?_eq_none (by rw [bl_len]; omega), List.getElem?_eq_none (by rw [List.length_set, bl_len]; omega)]
theorem set_own {l : List Vec} {i : Nat} {v : Vec} (h : l[i]? = some v) : l.set i v = l := by
  apply List.ext_getElem?
  intro j
  by_cases e : j = i
  · subst e
    rw [List.getElem?_set_self (List.getElem?_eq_some_iff.mp h).1, h]
  · rw [List.getElem?_set_ne (Ne.symm e)]
/-- a column of the basis put at another place -/
theorem det_bl_set {i j : Nat} (hi : i < m + 1) (hj : j < m + 1) : det (m + 1) ((bl A m B).set i (bv A m B j)) = if j = i then det (m + 1) (bl A m B) else 0 := by
  by_cases e : j = i
  · subst e; rw [set_own (bl_get hi), if_pos rfl]
  · rw [if_neg e]
    exact det_two' (i := i) (j := j) (x := bv A m B j) (by rw [List.length_set, bl_len]) (Ne.symm e) (by rw [List.getElem?_set_self (by rw [bl_len]; exact hi)]) (by rw [List.getElem?_set_ne (Ne.symm e), bl_get hj])
theorem cramer {x : Nat → Int} {v : Vec} (h : ∀ k, k < m + 1 → sm (m + 1) (fun i => x i * bv A m B i k) = d * v k) {i : Nat} (hi : i < m + 1) :
    d * det (m + 1) ((bl A m B).set i v) = x i * det (m + 1) (bl A m B) := by
  rw [← det_set_mul bl_len hi, ← det_set_congr (l := bl A m B) (i := i) h, det_set_sum bl_len hi]
  rw [sm_one (k := i) (m + 1) hi]
  · rw [det_bl_set hi hi, if_pos rfl]
  · intro j hj hne
    rw [det_bl_set hi hj, if_neg hne]; omega

/-- the table at some time: T over the divisor d tells the columns by those of the basis B -/
structure Good (A : Nat → Nat → Int) (m n : Nat) (s : Int) (T : Nat → Nat → Int) (d : Int) (B : Nat → Nat) : Prop where
  ss : s * s = 1
  dpos : 0 < d
  inB : ∀ i, i < m → B i < n
  hd : det (m + 1) (bl A m B) = s * d
  hT : ∀ j, j ≤ n → ∀ k, k < m + 1 → sm (m + 1) (fun i => T i j * bv A m B i k) = d * A k j
  rhs : ∀ i, i < m → 0 ≤ T i n
theorem cancel_left {a b c : Int} (ha : 0 < a) (h : a * b = a * c) : b = c := Int.eq_of_mul_eq_mul_left (by omega) h
/-- each entry is a determinant -/
theorem Good.entry (g : Good A m n s T d B) {i j : Nat} (hi : i < m + 1) (hj : j ≤ n) : T i j = s * det (m + 1) ((bl A m B).set i (col A j)) := by
  have h := cramer (v := col A j) (g.hT j hj) hi
  rw [g.hd] at h
  have hs := g.ss
  refine cancel_left g.dpos ?_
  grind
theorem Good.basis (g : Good A m n s T d B) {i j : Nat} (hi : i < m + 1) (hj : j < m) : T i (B j) = if i = j then d else 0 := by
  have e : col A (B j) = bv A m B j := by simp [bv, hj]
  rw [g.entry hi (Nat.le_of_lt (g.inB j hj)), e, det_bl_set hi (by omega), g.hd]
  have hs := g.ss
  by_cases z : j = i
  · rw [if_pos z, if_pos z.symm]; grind
  · rw [if_neg z, if_neg (Ne.symm z)]; omega
/-- two columns put in -/
theorem Good.two (g : Good A m n s T d B) {i r c j : Nat} (hi : i < m + 1) (hr : r < m + 1) (hir : i ≠ r) (hc : c ≤ n) (hj : j ≤ n) :
    d * (s * det (m + 1) (((bl A m B).set r (col A c)).set i (col A j))) = T i j * T r c - T i c * T r j := by
  have h1 : det (m + 1) (((bl A m B).set i (col A j)).set r fun k => d * col A c k) = sm (m + 1) fun k => T k c * det (m + 1) (((bl A m B).set i (col A j)).set r (bv A m B k)) := by
    rw [← det_set_congr (i := r) (x := fun k => sm (m + 1) fun q => T q c * bv A m B q k) (y := fun k => d * col A c k) (g.hT c hc), det_set_sum (by rw [List.length_set, bl_len]) hr]
  rw [det_set_mul (by rw [List.length_set, bl_len]) hr] at h1
  rw [sm_two (k := r) (l := i) (Ne.symm hir) (m + 1) hr hi] at h1
  · have e1 : det (m + 1) (((bl A m B).set i (col A j)).set r (bv A m B r)) = det (m + 1) ((bl A m B).set i (col A j)) := by
      rw [set_own (by rw [List.getElem?_set_ne hir, bl_get hr])]
    have e2 : det (m + 1) (((bl A m B).set i (col A j)).set r (bv A m B i)) = - det (m + 1) ((bl A m B).set r (col A j)) := by
      rw [det_exch (by rw [bl_len]) hi hr hir]
      rw [set_own (l := bl A m B) (i := i) (bl_get hi)]
    have f1 := g.entry hi hj
    have f2 := g.entry hr hj
    rw [e1, e2] at h1
    rw [List.set_comm _ _ (Ne.symm hir)]
    have hs := g.ss
    grind
  · intro k hk hkr hki
    have : det (m + 1) (((bl A m B).set i (col A j)).set r (bv A m B k)) = 0 :=
      det_two' (i := r) (j := k) (x := bv A m B k) (by simp [bl_len]) (Ne.symm hkr) (by rw [List.getElem?_set_self (by rw [List.length_set, bl_len]; exact hr)])
        (by rw [List.getElem?_set_ne (Ne.symm hkr), List.getElem?_set_ne (Ne.symm hki), bl_get hk])
    rw [this]; omega
/-- the division leaves nothing -/
theorem Good.exact (g : Good A m n s T d B) {i r c j : Nat} (hi : i < m + 1) (hr : r < m + 1) (hir : i ≠ r) (hc : c ≤ n) (hj : j ≤ n) :
    d * ((T i j * T r c - T i c * T r j).fdiv d) = T i j * T r c - T i c * T r j := by
  rw [← g.two hi hr hir hc hj, Int.mul_fdiv_cancel_left _ (by have := g.dpos; omega)]
/-- the step -/
theorem Good.step (g : Good A m n s T d B) {r c : Nat} (hr : r < m) (hc : c < n) (hp : 0 < T r c)
    (hTr : ∀ j, j ≤ n → T' r j = T r j) (hTi : ∀ i, i < m + 1 → i ≠ r → ∀ j, j ≤ n → T' i j = (T i j * T r c - T i c * T r j).fdiv d)
    (ratio : ∀ i, i < m → 0 < T i c → T r n * T i c ≤ T i n * T r c) : Good A m n s T' (T r c) (updB B r c) := by
  have ex : ∀ i, i < m + 1 → i ≠ r → ∀ j, j ≤ n → d * T' i j = T i j * T r c - T i c * T r j := fun i hi hir j hj => by
    rw [hTi i hi hir j hj]
    exact g.exact hi (by omega) hir (by omega) hj
  refine ⟨g.ss, hp, fun i hi => ?_, ?_, fun j hj k hk => ?_, fun i hi => ?_⟩
  · unfold updB
    split
    · exact hc
    · exact g.inB i hi
  · rw [bl_upd hr]
    have h := g.entry (i := r) (j := c) (by omega) (by omega)
    have hs := g.ss
    grind
  · -- d times both sides
    refine cancel_left g.dpos ?_
    have h1 : ∀ i, i < m + 1 → d * (T' i j * bv A m (updB B r c) i k) = T r c * (T i j * bv A m B i k) + (- T r j) * (T i c * bv A m B i k) + (if i = r then d * T r j * A k c else 0) := by
      intro i hi
      by_cases e : i = r
      · subst e
        rw [if_pos rfl, hTr j hj]
        have : bv A m (updB B i c) i k = A k c := by simp [bv, updB, hr, col]
        rw [this]
        grind
      · have : bv A m (updB B r c) i k = bv A m B i k := by simp [bv, updB, e]
        rw [if_neg e, this]
        have := ex i hi e j hj
        grind
    rw [← sm_mul, sm_congr _ h1, sm_add, sm_add, sm_mul, sm_mul, g.hT j hj k hk, g.hT c (by omega) k hk]
    rw [sm_one (f := fun i => if i = r then d * T r j * A k c else 0) (k := r) (m + 1) (by omega) (fun i _ hne => by simp [hne])]
    simp only [if_pos]
    grind
  · by_cases e : i = r
    · subst e; rw [hTr n (Nat.le_refl _)]; exact g.rhs i hi
    · have h := ex i (by omega) e n (Nat.le_refl _)
      have h2 : 0 ≤ T i n * T r c - T i c * T r n := by
        have hn := g.rhs i hi
        have hrn := g.rhs r hr
        by_cases z : 0 < T i c
        · have := ratio i hi z
          have e2 : T i c * T r n = T r n * T i c := Int.mul_comm _ _
          omega
        · have q1 : 0 ≤ T i n * T r c := Int.mul_nonneg hn (by omega)
          have q2 : 0 ≤ (- T i c) * T r n := Int.mul_nonneg (by omega) hrn
          have : (- T i c) * T r n = - (T i c * T r n) := Int.neg_mul _ _
          omega
      rw [← h] at h2
      have hd := g.dpos
      by_cases q : 0 ≤ T' i n
      · exact q
      · exfalso
        have : d * T' i n < 0 := Int.mul_neg_of_pos_of_neg hd (by omega)
        omega

/-! ### what the table begins with -/
structure Init (A : Nat → Nat → Int) (m n kx : Nat) : Prop where
  dim : n = kx + m
  slack : ∀ k, k < m + 1 → ∀ i, i < m → A k (kx + i) = if k = i then 1 else 0
  last : A m n = 0
  pos : ∀ k, k < m → ∀ j, j < n → 0 ≤ A k j
  some : ∀ j, j < n → ∃ k, k < m ∧ 0 < A k j
  rhs : ∀ k, k < m → 0 ≤ A k n
theorem bv_first (h : Init A m n kx) {i k : Nat} (hi : i < m + 1) (hk : k < m + 1) : bv A m (fun i => kx + i) i k = unit i k := by
  unfold bv
  split
  · rename_i z
    show A k (kx + i) = _
    rw [h.slack k hk i z]
    rfl
  · have : i = m := by omega
    subst this; rfl
theorem Good.first (h : Init A m n kx) : ∃ s, Good A m n s A 1 fun i => kx + i := by
  obtain ⟨s, hs, e⟩ := det_unit (m + 1)
  refine ⟨s, hs, by omega, fun i hi => by rw [h.dim]; omega, ?_, fun j hj k hk => ?_, h.rhs⟩
  · rw [Int.mul_one, ← e]
    refine det_congr _ _ _ ⟨by simp [bl], fun i v v' e1 e2 k hk => ?_⟩
    have hi : i < m + 1 := by have := (List.getElem?_eq_some_iff.mp e1).1; rwa [bl_len] at this
    rw [bl_get hi] at e1
    rw [List.getElem?_map, List.getElem?_range hi] at e2
    cases e1; cases e2
    exact bv_first h hi hk
  · rw [sm_congr (g := fun i => A i j * unit i k) _ fun i hi => by rw [bv_first h hi hk]]
    rw [sm_one (k := k) _ hk fun i _ hne => by show A i j * (if k = i then 1 else 0) = 0; rw [if_neg (Ne.symm hne)]; omega]
    show A k j * (if k = k then 1 else 0) = _
    rw [if_pos rfl]; omega
/-- some row bounds a column that raises the sum -/
theorem Good.bounded (h : Init A m n kx) (g : Good A m n s T d B) {c : Nat} (hc : c < n) : ∃ i, i < m ∧ 0 < T i c := by
  obtain ⟨k, hk, hA⟩ := h.some c hc
  have e := g.hT c (by omega) k (by omega)
  have hd := g.dpos
  have hpos : 0 < sm (m + 1) (fun i => T i c * bv A m B i k) := by rw [e]; exact Int.mul_pos hd hA
  obtain ⟨i, hi, z⟩ := sm_pos_ex _ hpos
  by_cases q : i < m
  · refine ⟨i, q, ?_⟩
    have hb : 0 ≤ bv A m B i k := by
      have : bv A m B i k = A k (B i) := by simp [bv, q, col]
      rw [this]; exact h.pos k hk _ (g.inB i q)
    by_cases w : 0 < T i c
    · exact w
    · exfalso
      have : T i c * bv A m B i k ≤ 0 := by
        have := Int.mul_nonneg (show 0 ≤ - T i c by omega) hb
        rw [Int.neg_mul] at this
        omega
      omega
  · exfalso
    have : i = m := by omega
    subst this
    have : bv A i B i k = 0 := by
      simp only [bv, Nat.lt_irrefl, if_false]
      show (if k = i then (1 : Int) else 0) = 0
      rw [if_neg (by omega)]
    rw [this] at z
    omega
/-- each row of the table is a sum of the first rows, told by the slacks -/
theorem Good.rows (h : Init A m n kx) (g : Good A m n s T d B) {i j : Nat} (hi : i < m + 1) (hj : j ≤ n) :
    T i j = sm m (fun k => A k j * T i (kx + k)) + (if i = m then d * A m j else 0) := by
  have e0 : det (m + 1) ((bl A m B).set i (col A j)) = det (m + 1) ((bl A m B).set i fun k => sm (m + 1) fun q => A q j * unit q k) := by
    refine det_set_congr fun k hk => ?_
    rw [sm_one (k := k) _ hk fun q _ hne => by show A q j * (if k = q then 1 else 0) = 0; rw [if_neg (Ne.symm hne)]; omega]
    show A k j = A k j * (if k = k then 1 else 0)
    rw [if_pos rfl]; omega
  rw [g.entry hi hj, e0, det_set_sum bl_len hi]
  show s * (sm m (fun q => A q j * det (m + 1) ((bl A m B).set i (unit q))) + A m j * det (m + 1) ((bl A m B).set i (unit m))) = _
  have e1 : ∀ q, q < m → A q j * det (m + 1) ((bl A m B).set i (unit q)) = s * (A q j * T i (kx + q)) := fun q hq => by
    have hs := g.ss
    have : det (m + 1) ((bl A m B).set i (unit q)) = det (m + 1) ((bl A m B).set i (col A (kx + q))) := det_set_congr fun k hk => by
      show (if k = q then (1 : Int) else 0) = A k (kx + q)
      rw [h.slack k hk q hq]
    rw [this, g.entry hi (by rw [h.dim]; omega)]
    grind
  rw [sm_congr m e1, sm_mul]
  have e2 : det (m + 1) ((bl A m B).set i (unit m)) = if m = i then s * d else 0 := by
    have : unit m = bv A m B m := by simp [bv]
    rw [this, det_bl_set hi (by omega), g.hd]
  rw [e2]
  have hs := g.ss
  by_cases z : i = m
  · rw [if_pos z, if_pos z.symm]; grind
  · rw [if_neg z, if_neg (Ne.symm z)]; grind
/-- how large the entries are -/
theorem Good.small (g : Good A m n s T d B) {R : Nat} (h1 : ∀ k, k < m + 1 → ∀ j, j < n → (A k j).natAbs ≤ 1) {i j : Nat} (hi : i < m + 1) (hj : j ≤ n) (hR : ∀ k, k < m + 1 → (A k j).natAbs ≤ R) :
    (T i j).natAbs ≤ fact (m + 1) * R := by
  have b1 : ∀ q, q < m + 1 → ∀ k, k < m + 1 → (bv A m B q k).natAbs ≤ 1 := fun q hq k hk => by
    by_cases z : q < m
    · have : bv A m B q k = A k (B q) := by simp [bv, z, col]
      rw [this]; exact h1 k hk _ (g.inB q z)
    · have : bv A m B q k = unit m k := by simp [bv, z]
      rw [this]; show (if k = m then (1 : Int) else 0).natAbs ≤ 1
      split <;> decide
  have hs1 : s.natAbs = 1 := by
    have := congrArg Int.natAbs g.ss
    rw [Int.natAbs_mul] at this
    exact Nat.eq_one_of_mul_eq_one_right this
  rw [g.entry hi hj, Int.natAbs_mul, hs1, Nat.one_mul]
  -- weigh: the column put in by R, all others by 1: split the list
  have hl : i < (bl A m B).length := by rw [bl_len]; exact hi
  have key : ∀ (n : Nat) (a b : List Vec) (v : Vec), a.length + b.length + 1 = n → (∀ u ∈ a, ∀ k, k < n → (u k).natAbs ≤ 1) → (∀ u ∈ b, ∀ k, k < n → (u k).natAbs ≤ 1) → (∀ k, k < n → (v k).natAbs ≤ R) → (det n (a ++ v :: b)).natAbs ≤ fact n * R := by
    intro n
    induction n with
    | zero => intro a b v h; omega
    | succ n ih =>
      intro a b v hlen ha hb hv
      -- minors without v are bounded by fact n
      have unitM : ∀ l : List Vec, l.length = n → (∀ u ∈ l, ∀ k, k < n + 1 → (u k).natAbs ≤ 1) → (det n l).natAbs ≤ fact n := fun l hl hu => by
        have := det_le (c := fun _ => 1) n l hl fun u hu' k hk => hu u hu' k (by omega)
        have e : prodC (fun _ => 1) l = 1 := by
          unfold prodC
          clear this hl hu
          induction l with
          | nil => rfl
          | cons x l ih => simp only [List.map_cons, List.foldr_cons, Nat.one_mul]; exact ih
        rwa [e, Nat.mul_one] at this
      -- expansion with v behind, v ahead
      have pre : ∀ (post p1 p2 : List Vec), p1.length + p2.length + 1 + post.length = n + 1 → (∀ u ∈ p1 ++ p2 ++ post, ∀ k, k < n + 1 → (u k).natAbs ≤ 1) → (ex (det n) n (p1 ++ v :: p2) post).natAbs ≤ post.length * (fact n * R) := by
        intro post
        induction post with
        | nil => intro p1 p2 _ _; simp [ex_nil]
        | cons x post ihp =>
          intro p1 p2 hl hu
          rw [ex_cons]
          have t1 := ih p1 (p2 ++ post) v (by simp at hl ⊢; omega) (fun u hm k hk => hu u (by simp [hm]) k (by omega)) (fun u hm k hk => hu u (by rcases List.mem_append.mp hm with z | z <;> simp [z]) k (by omega)) fun k hk => hv k (by omega)
          have t2 := ihp p1 (p2 ++ [x]) (by simp at hl ⊢; omega) (fun u hm k hk => hu u (by simp at hm ⊢; rcases hm with z | z | z | z <;> simp [z]) k hk)
          have t3 := hu x (by simp) n (by omega)
          simp only [List.append_assoc, List.cons_append] at t1 t2 ⊢
          have t4 : (x n * det n (p1 ++ v :: (p2 ++ post))).natAbs ≤ fact n * R := by
            rw [Int.natAbs_mul]
            exact Nat.le_trans (Nat.mul_le_mul t3 t1) (by rw [Nat.one_mul]; exact Nat.le_refl _)
          simp only [List.length_cons, Nat.add_mul]
          omega
      have post : ∀ (q1 p q2 : List Vec), p.length + q1.length + 1 + q2.length = n + 1 → (∀ u ∈ p ++ q1 ++ q2, ∀ k, k < n + 1 → (u k).natAbs ≤ 1) → (ex (det n) n p (q1 ++ v :: q2)).natAbs ≤ (q1.length + 1 + q2.length) * (fact n * R) := by
        intro q1
        induction q1 with
        | nil =>
          intro p q2 hl hu
          simp only [List.nil_append, ex_cons]
          have t1 := unitM (p ++ q2) (by simp at hl ⊢; omega) fun u hm k hk => hu u (by simpa using hm) k hk
          have t2 := pre q2 p [] (by simp at hl ⊢; omega) fun u hm k hk => hu u (by simpa using hm) k hk
          have t3 := hv n (by omega)
          have t4 : (v n * det n (p ++ q2)).natAbs ≤ fact n * R := by
            rw [Int.natAbs_mul, Nat.mul_comm]
            exact Nat.mul_le_mul t1 t3
          simp only [List.length_nil, Nat.zero_add, Nat.add_mul]
          omega
        | cons x q1 ihq =>
          intro p q2 hl hu
          simp only [List.cons_append, ex_cons]
          have t1 := ih (p ++ q1) q2 v (by simp at hl ⊢; omega) (fun u hm k hk => hu u (by rcases List.mem_append.mp hm with z | z <;> simp [z]) k (by omega)) (fun u hm k hk => hu u (by simp [hm]) k (by omega)) fun k hk => hv k (by omega)
          have t2 := ihq (p ++ [x]) q2 (by simp at hl ⊢; omega) (fun u hm k hk => hu u (by simp at hm ⊢; rcases hm with z | z | z | z <;> simp [z]) k hk)
          have t3 := hu x (by simp) n (by omega)
          have t4 : (x n * det n (p ++ (q1 ++ v :: q2))).natAbs ≤ fact n * R := by
            rw [Int.natAbs_mul]
            simp only [List.append_assoc] at t1
            exact Nat.le_trans (Nat.mul_le_mul t3 t1) (by rw [Nat.one_mul]; exact Nat.le_refl _)
          simp only [List.length_cons]
          have e : (q1.length + 1 + 1 + q2.length) * (fact n * R) = fact n * R + (q1.length + 1 + q2.length) * (fact n * R) := by
            rw [show q1.length + 1 + 1 + q2.length = 1 + (q1.length + 1 + q2.length) by omega, Nat.add_mul, Nat.one_mul]
          omega
      have t := post a [] b (by simp; omega) (fun u hm k hk => by
        rcases List.mem_append.mp hm with z | z
        · exact ha u (by simpa using z) k hk
        · exact hb u z k hk)
      show (ex (det n) n [] (a ++ v :: b)).natAbs ≤ (n + 1) * fact n * R
      rw [show a.length + 1 + b.length = n + 1 by omega] at t
      rw [Nat.mul_assoc]
      exact t
  rw [set_split hl]
  refine key (m + 1) _ _ _ (by rw [List.length_take, List.length_drop, bl_len]; omega) (fun u hu k hk => ?_) (fun u hu k hk => ?_) fun k hk => ?_
  · have := List.mem_of_mem_take hu
    obtain ⟨q, hq, rfl⟩ := List.mem_map.mp this
    exact b1 q (List.mem_range.mp hq) k hk
  · have := List.mem_of_mem_drop hu
    obtain ⟨q, hq, rfl⟩ := List.mem_map.mp this
    exact b1 q (List.mem_range.mp hq) k hk
  · exact hR k hk
end
end MK
set_option maxHeartbeats 4000000
/-! Bland's rule ends. Core Lean alone. -/
namespace MK
structure Run (A : Nat → Nat → Int) (m n : Nat) (s : Int) (T : Nat → Nat → Nat → Int) (d : Nat → Int) (B : Nat → Nat → Nat) (r c : Nat → Nat) : Prop where
  good : ∀ k, Good A m n s (T k) (d k) (B k)
  cn : ∀ k, c k < n
  neg : ∀ k, T k m (c k) < 0
  first : ∀ k j, j < c k → 0 ≤ T k m j
  rm : ∀ k, r k < m
  piv : ∀ k, 0 < T k (r k) (c k)
  least : ∀ k i, i < m → 0 < T k i (c k) → T k (r k) n * T k i (c k) < T k i n * T k (r k) (c k) ∨ (T k (r k) n * T k i (c k) = T k i n * T k (r k) (c k) ∧ B k (r k) ≤ B k i)
  dn : ∀ k, d (k + 1) = T k (r k) (c k)
  Br : ∀ k, B (k + 1) (r k) = c k
  Bn : ∀ k i, i < m → i ≠ r k → B (k + 1) i = B k i
  Tr : ∀ k j, j ≤ n → T (k + 1) (r k) j = T k (r k) j
  Ti : ∀ k i, i < m + 1 → i ≠ r k → ∀ j, j ≤ n → d k * T (k + 1) i j = T k i j * T k (r k) (c k) - T k i (c k) * T k (r k) j
/-- fractions in order -/
theorem frac_trans {x y z d e f : Int} (hd : 0 < d) (he : 0 < e) (hf : 0 < f) (h1 : x * e ≤ y * d) (h2 : y * f ≤ z * e) : x * f ≤ z * d := by
  have a1 : x * e * f ≤ y * d * f := Int.mul_le_mul_of_nonneg_right h1 (by omega)
  have a2 : y * f * d ≤ z * e * d := Int.mul_le_mul_of_nonneg_right h2 (by omega)
  have e1 : y * d * f = y * f * d := by grind
  have e2 : x * e * f = e * (x * f) := by grind
  have e3 : z * e * d = e * (z * d) := by grind
  have : e * (x * f) ≤ e * (z * d) := by omega
  exact Int.le_of_mul_le_mul_left this he
theorem frac_strict {x y z d e f : Int} (hd : 0 < d) (he : 0 < e) (hf : 0 < f) (h1 : x * e < y * d) (h2 : y * f ≤ z * e) : x * f < z * d := by
  have a1 : x * e * f < y * d * f := Int.mul_lt_mul_of_pos_right h1 hf
  have a2 : y * f * d ≤ z * e * d := Int.mul_le_mul_of_nonneg_right h2 (by omega)
  have e1 : y * d * f = y * f * d := by grind
  have e2 : x * e * f = e * (x * f) := by grind
  have e3 : z * e * d = e * (z * d) := by grind
  have : e * (x * f) < e * (z * d) := by omega
  exact Int.lt_of_mul_lt_mul_left this (by omega)
/-- the greatest of finitely many -/
theorem max_of (c : Nat → Nat) (a : Nat) : ∀ n, ∃ k, a ≤ k ∧ k < a + (n + 1) ∧ ∀ j, a ≤ j → j < a + (n + 1) → c j ≤ c k
  | 0 => ⟨a, by omega, by omega, fun j h1 h2 => by rw [show j = a by omega]; exact Nat.le_refl _⟩
  | n + 1 => by
    obtain ⟨k, h1, h2, h3⟩ := max_of c a n
    by_cases e : c k ≤ c (a + (n + 1))
    · refine ⟨a + (n + 1), by omega, by omega, fun j q1 q2 => ?_⟩
      by_cases z : j = a + (n + 1)
      · subst z; exact Nat.le_refl _
      · exact Nat.le_trans (h3 j q1 (by omega)) e
    · refine ⟨k, h1, by omega, fun j q1 q2 => ?_⟩
      by_cases z : j = a + (n + 1)
      · subst z; omega
      · exact h3 j q1 (by omega)
section
variable {A : Nat → Nat → Int} {m n : Nat} {s : Int} {T : Nat → Nat → Nat → Int} {d : Nat → Int} {B : Nat → Nat → Nat} {r c : Nat → Nat}
theorem bl_congr {B B' : Nat → Nat} (h : ∀ i, i < m → B i = B' i) : bl A m B = bl A m B' := by
  unfold bl
  refine List.map_congr_left fun i hi => ?_
  unfold bv
  split
  · rename_i z; rw [h i z]
  · rfl
theorem Good.inj {T : Nat → Nat → Int} {d : Int} {B : Nat → Nat} (g : Good A m n s T d B) {i j : Nat} (hi : i < m) (hj : j < m) (e : B i = B j) : i = j := by
  have h1 := g.basis (i := i) (j := i) (by omega) hi
  have h2 := g.basis (i := i) (j := j) (by omega) hj
  rw [e, h2, if_pos rfl] at h1
  by_cases z : i = j
  · exact z
  · rw [if_neg z] at h1
    have := g.dpos
    omega
theorem Good.det_same {T T' : Nat → Nat → Int} {d d' : Int} {B B' : Nat → Nat} (g : Good A m n s T d B) (g' : Good A m n s T' d' B') (h : ∀ i, i < m → B i = B' i) : d = d' ∧ ∀ i, i < m + 1 → ∀ j, j ≤ n → T i j = T' i j := by
  have e := bl_congr (A := A) h
  constructor
  · have h1 := g.hd
    have h2 := g'.hd
    rw [e, h2] at h1
    have hs := g.ss
    have : s * (s * d') = s * (s * d) := by rw [h1]
    grind
  · intro i hi j hj
    rw [g.entry hi hj, g'.entry hi hj, e]
/-- the sum's rows of two tables -/
theorem Good.cross {T1 T2 : Nat → Nat → Int} {d1 d2 : Int} {B1 B2 : Nat → Nat} (g1 : Good A m n s T1 d1 B1) (g2 : Good A m n s T2 d2 B2) {j : Nat} (hj : j ≤ n) :
    d1 * T2 m j = sm m (fun i => T1 i j * T2 m (B1 i)) + T1 m j * d2 := by
  have h := det_set_sum (l := bl A m B2) (i := m) bl_len (by omega) (fun i => T1 i j) (bv A m B1) (m + 1)
  rw [det_set_congr (y := fun k => d1 * col A j k) (g1.hT j hj), det_set_mul bl_len (by omega)] at h
  have e1 := g2.entry (i := m) (j := j) (by omega) hj
  have e2 : ∀ i, i < m → T2 m (B1 i) = s * det (m + 1) ((bl A m B2).set m (bv A m B1 i)) := fun i hi => by
    rw [g2.entry (by omega) (Nat.le_of_lt (g1.inB i hi))]
    simp [bv, hi]
  have e3 : det (m + 1) ((bl A m B2).set m (bv A m B1 m)) = s * d2 := by
    have : bv A m B1 m = bv A m B2 m := by simp [bv]
    rw [this, det_bl_set (by omega) (by omega), if_pos rfl, g2.hd]
  have hs := g1.ss
  have e4 : sm m (fun i => T1 i j * T2 m (B1 i)) = s * sm m (fun i => T1 i j * det (m + 1) ((bl A m B2).set m (bv A m B1 i))) := by
    rw [← sm_mul]
    refine sm_congr m fun i hi => ?_
    rw [e2 i hi]
    grind
  have h' : d1 * det (m + 1) ((bl A m B2).set m (col A j)) = sm m (fun i => T1 i j * det (m + 1) ((bl A m B2).set m (bv A m B1 i))) + T1 m j * (s * d2) := by
    rw [← e3]; exact h
  rw [e1, e4]
  grind

/-- the worth never falls; it stays only where the row's end is 0 -/
theorem Run.rise (R : Run A m n s T d B r c) (k : Nat) : T k m n * d (k + 1) ≤ T (k + 1) m n * d k ∧ (T k (r k) n ≠ 0 → T k m n * d (k + 1) < T (k + 1) m n * d k) := by
  have e := R.Ti k m (by omega) (by have := R.rm k; omega) n (Nat.le_refl _)
  have h1 := R.neg k
  have h2 := (R.good k).rhs (r k) (R.rm k)
  rw [R.dn k]
  have h3 : 0 ≤ (- T k m (c k)) * T k (r k) n := Int.mul_nonneg (by omega) h2
  rw [Int.neg_mul] at h3
  have e' : T (k + 1) m n * d k = d k * T (k + 1) m n := Int.mul_comm _ _
  refine ⟨by omega, fun hne => ?_⟩
  have h4 : 0 < (- T k m (c k)) * T k (r k) n := Int.mul_pos (by omega) (by omega)
  rw [Int.neg_mul] at h4
  omega
theorem Run.rises (R : Run A m n s T d B r c) (a : Nat) : ∀ b, T a m n * d (a + b) ≤ T (a + b) m n * d a
  | 0 => by rw [Nat.add_zero]; exact Int.le_refl _
  | b + 1 => frac_trans ((R.good a).dpos) ((R.good (a + b)).dpos) ((R.good (a + (b + 1))).dpos) (Run.rises R a b) (R.rise (a + b)).1
theorem Run.flat (R : Run A m n s T d B r c) {a b : Nat} (hab : a < b) (e : ∀ i, i < m → B a i = B b i) : ∀ k, a ≤ k → k < b → T k (r k) n = 0 := by
  intro k h1 h2
  have q1 := R.rises a (k - a)
  have q2 := R.rises (k + 1) (b - (k + 1))
  rw [show a + (k - a) = k by omega] at q1
  rw [show k + 1 + (b - (k + 1)) = b by omega] at q2
  obtain ⟨ed, eT⟩ := (R.good a).det_same (R.good b) e
  have eT := eT m (by omega) n (Nat.le_refl _)
  by_cases z : T k (r k) n = 0
  · exact z
  · exfalso
    have q3 := (R.rise k).2 z
    have q4 := frac_strict (R.good k).dpos (R.good (k + 1)).dpos (R.good b).dpos q3 q2
    -- T k * d b < T b * d k and T a * d k ≤ T k * d a
    rw [← ed, ← eT] at q4
    omega
/-- the variable v is 0 at time k -/
def Zero (T : Nat → Nat → Nat → Int) (B : Nat → Nat → Nat) (m n k v : Nat) : Prop := ∀ i, i < m → B k i = v → T k i n = 0
theorem Run.zero_next (R : Run A m n s T d B r c) {k v : Nat} (hf : T k (r k) n = 0) : Zero T B m n k v ↔ Zero T B m n (k + 1) v := by
  have rowN : ∀ i, i < m → i ≠ r k → (T k i n = 0 ↔ T (k + 1) i n = 0) := fun i hi hne => by
    have e := R.Ti k i (by omega) hne n (Nat.le_refl _)
    rw [hf, Int.mul_zero, Int.sub_zero] at e
    have hd := (R.good k).dpos
    have hp := R.piv k
    constructor
    · intro z
      rw [z, Int.zero_mul] at e
      rcases Int.mul_eq_zero.mp e with q | q
      · omega
      · exact q
    · intro z
      rw [z, Int.mul_zero] at e
      rcases Int.mul_eq_zero.mp e.symm with q | q
      · exact q
      · omega
  constructor
  · intro z i hi e
    by_cases q : i = r k
    · subst q
      rw [R.Tr k n (Nat.le_refl _)]; exact hf
    · exact (rowN i hi q).mp (z i hi (by rw [← R.Bn k i hi q]; exact e))
  · intro z i hi e
    by_cases q : i = r k
    · subst q; exact hf
    · exact (rowN i hi q).mpr (z i hi (by rw [R.Bn k i hi q]; exact e))
theorem Run.zeros (R : Run A m n s T d B r c) {a v : Nat} : ∀ l, (∀ k, a ≤ k → k < a + l → T k (r k) n = 0) → (Zero T B m n a v ↔ Zero T B m n (a + l) v)
  | 0, _ => Iff.rfl
  | l + 1, h => (Run.zeros R l fun k h1 h2 => h k h1 (by omega)).trans (R.zero_next (h (a + l) (by omega) (by omega)))
theorem Run.not_in (R : Run A m n s T d B r c) (k : Nat) : ∀ i, i < m → B k i ≠ c k := fun i hi e => by
  have h := (R.good k).basis (i := m) (j := i) (by omega) hi
  rw [e, if_neg (by omega)] at h
  have := R.neg k
  omega
/-- no basis comes again -/
theorem Run.no_again (R : Run A m n s T d B r c) {a b : Nat} (hab : a < b) (e : ∀ i, i < m → B a i = B b i) : False := by
  have flat := R.flat hab e
  have zero : ∀ k k' v, a ≤ k → k ≤ b → a ≤ k' → k' ≤ b → Zero T B m n k v → Zero T B m n k' v := by
    intro k k' v h1 h2 h3 h4 z
    have q1 := R.zeros (a := a) (v := v) (k - a) fun j p1 p2 => flat j p1 (by omega)
    have q2 := R.zeros (a := a) (v := v) (k' - a) fun j p1 p2 => flat j p1 (by omega)
    rw [show a + (k - a) = k by omega] at q1
    rw [show a + (k' - a) = k' by omega] at q2
    exact q2.mp (q1.mpr z)
  -- a variable that is in the basis at one time and out at another one enters
  have enters : ∀ v k1 k2, a ≤ k1 → k1 ≤ b → a ≤ k2 → k2 ≤ b → (∃ i, i < m ∧ B k1 i = v) → (∀ i, i < m → B k2 i ≠ v) → ∃ k, a ≤ k ∧ k < b ∧ c k = v := by
    intro v k1 k2 h1 h2 h3 h4 hin hout
    by_cases z : ∃ k, a ≤ k ∧ k < b ∧ c k = v
    · exact z
    · exfalso
      have nx : ∀ k, a ≤ k → k < b → (∀ i, i < m → B k i ≠ v) → ∀ i, i < m → B (k + 1) i ≠ v := fun k p1 p2 ho i hi q => by
        by_cases w : i = r k
        · subst w; rw [R.Br k] at q; exact z ⟨k, p1, p2, q⟩
        · rw [R.Bn k i hi w] at q; exact ho i hi q
      have up : ∀ l k, a ≤ k → k + l ≤ b → (∀ i, i < m → B k i ≠ v) → ∀ i, i < m → B (k + l) i ≠ v := by
        intro l
        induction l with
        | zero => intro k _ _ ho; exact ho
        | succ l ih => intro k p1 p2 ho; exact nx (k + l) (by omega) (by omega) (ih k p1 (by omega) ho)
      have ob := up (b - k2) k2 h3 (by omega) hout
      rw [show k2 + (b - k2) = b by omega] at ob
      have oa : ∀ i, i < m → B a i ≠ v := fun i hi => by rw [e i hi]; exact ob i hi
      have o1 := up (k1 - a) a (Nat.le_refl _) (by omega) oa
      rw [show a + (k1 - a) = k1 by omega] at o1
      obtain ⟨i, hi, q⟩ := hin
      exact o1 i hi q
  -- a variable that enters leaves
  have leaves : ∀ k, a ≤ k → k < b → ∃ k', a ≤ k' ∧ k' < b ∧ B k' (r k') = c k := by
    intro k h1 h2
    by_cases z : ∃ k', a ≤ k' ∧ k' < b ∧ B k' (r k') = c k
    · exact z
    · exfalso
      have nx : ∀ j, a ≤ j → j < b → (∃ i, i < m ∧ B j i = c k) → ∃ i, i < m ∧ B (j + 1) i = c k := fun j p1 p2 ⟨i, hi, q⟩ => by
        by_cases w : i = r j
        · subst w; exact absurd ⟨j, p1, p2, q⟩ z
        · exact ⟨i, hi, by rw [R.Bn j i hi w]; exact q⟩
      have up : ∀ l j, a ≤ j → j + l ≤ b → (∃ i, i < m ∧ B j i = c k) → ∃ i, i < m ∧ B (j + l) i = c k := by
        intro l
        induction l with
        | zero => intro j _ _ ho; exact ho
        | succ l ih => intro j p1 p2 ho; exact nx (j + l) (by omega) (by omega) (ih j p1 (by omega) ho)
      have hb := up (b - (k + 1)) (k + 1) (by omega) (by omega) ⟨r k, R.rm k, R.Br k⟩
      rw [show k + 1 + (b - (k + 1)) = b by omega] at hb
      obtain ⟨i, hi, q⟩ := hb
      have hk := up (k - a) a (Nat.le_refl _) (by omega) ⟨i, hi, by rw [e i hi]; exact q⟩
      rw [show a + (k - a) = k by omega] at hk
      obtain ⟨i, hi, q⟩ := hk
      exact R.not_in k i hi q
  obtain ⟨k2, p1, p2, top⟩ := max_of c a (b - a - 1)
  have hk2 : k2 < b := by omega
  have top : ∀ k, a ≤ k → k < b → c k ≤ c k2 := fun k h1 h2 => top k h1 (by omega)
  obtain ⟨k1, q1, q1', hleave⟩ := leaves k2 p1 hk2
  have g1 := R.good k1
  have g2 := R.good k2
  have hst : c k1 < c k2 := by
    rcases Nat.lt_or_eq_of_le (top k1 q1 q1') with h | h
    · exact h
    · exfalso
      exact R.not_in k1 (r k1) (R.rm k1) (by rw [hleave, h])
  have cross := g1.cross g2 (j := c k1) (Nat.le_of_lt (R.cn k1))
  have hs2 := R.first k2 (c k1) hst
  have hn1 := R.neg k1
  have hpos : 0 < sm m (fun i => T k1 i (c k1) * T k2 m (B k1 i)) := by
    have a1 : 0 ≤ d k1 * T k2 m (c k1) := Int.mul_nonneg (by have := g1.dpos; omega) hs2
    have a2 : 0 < (- T k1 m (c k1)) * d k2 := Int.mul_pos (by omega) g2.dpos
    rw [Int.neg_mul] at a2
    omega
  obtain ⟨i, hi, hprod⟩ := sm_pos_ex _ hpos
  have hout : ∀ j, j < m → B k2 j ≠ B k1 i := fun j hj q => by
    have h := g2.basis (i := m) (j := j) (by omega) hj
    rw [q, if_neg (by omega)] at h
    rw [h, Int.mul_zero] at hprod
    omega
  obtain ⟨k, w1, w2, w3⟩ := enters (B k1 i) k1 k2 q1 (by omega) p1 (by omega) ⟨i, hi, rfl⟩ hout
  have hle : B k1 i ≤ c k2 := by rw [← w3]; exact top k w1 w2
  have hne : B k1 i ≠ c k2 := fun q => by
    have hir : i = r k1 := g1.inj hi (R.rm k1) (by rw [q, hleave])
    have h1 := R.piv k1
    rw [← hir] at h1
    have h2 := R.neg k2
    rw [q] at hprod
    have := Int.mul_pos h1 (show 0 < - T k2 m (c k2) by omega)
    rw [Int.mul_neg] at this
    omega
  have hlt : B k1 i < c k2 := by omega
  have hge := R.first k2 (B k1 i) hlt
  have hTi : 0 < T k1 i (c k1) := by
    by_cases z : 0 < T k1 i (c k1)
    · exact z
    · exfalso
      have := Int.mul_nonneg (show 0 ≤ - T k1 i (c k1) by omega) hge
      rw [Int.neg_mul] at this
      omega
  have hz : T k1 i n = 0 := zero k2 k1 (B k1 i) p1 (by omega) q1 (by omega) (fun j hj q => absurd q (hout j hj)) i hi rfl
  have hr0 := flat k1 q1 q1'
  rcases R.least k1 i hi hTi with h | ⟨_, h⟩
  · rw [hr0, hz, Int.zero_mul, Int.zero_mul] at h; omega
  · omega
end
/-! ### finitely many bases -/
def enc (n : Nat) (B : Nat → Nat) : Nat → Nat
  | 0 => 0
  | m + 1 => B m + n * enc n B m
theorem enc_lt {n : Nat} {B : Nat → Nat} : ∀ m, (∀ i, i < m → B i < n) → enc n B m < n ^ m
  | 0, _ => by simp [enc]
  | m + 1, h => by
    have h1 := enc_lt m fun i hi => h i (by omega)
    have h2 := h m (by omega)
    show B m + n * enc n B m < n ^ (m + 1)
    have : n * (enc n B m + 1) ≤ n * n ^ m := Nat.mul_le_mul_left n h1
    rw [Nat.mul_add] at this
    rw [Nat.pow_succ, Nat.mul_comm (n ^ m) n]
    omega
theorem enc_inj {n : Nat} {B B' : Nat → Nat} : ∀ m, (∀ i, i < m → B i < n) → (∀ i, i < m → B' i < n) → enc n B m = enc n B' m → ∀ i, i < m → B i = B' i
  | 0, _, _, _, i, hi => by omega
  | m + 1, h, h', e, i, hi => by
    have e' : B m + n * enc n B m = B' m + n * enc n B' m := e
    have h1 := h m (by omega)
    have h2 := h' m (by omega)
    have m1 : (B m + n * enc n B m) % n = B m := by rw [Nat.add_mul_mod_self_left, Nat.mod_eq_of_lt h1]
    have m2 : (B' m + n * enc n B' m) % n = B' m := by rw [Nat.add_mul_mod_self_left, Nat.mod_eq_of_lt h2]
    have em : B m = B' m := by rw [← m1, ← m2, e']
    have en : enc n B m = enc n B' m := by
      have : n * enc n B m = n * enc n B' m := by omega
      exact Nat.eq_of_mul_eq_mul_left (by omega) this
    by_cases z : i = m
    · subst z; exact em
    · exact enc_inj m (fun i hi => h i (by omega)) (fun i hi => h' i (by omega)) en i (by omega)
theorem pigeon : ∀ (N : Nat) (f : Nat → Nat), (∀ k, k ≤ N → f k < N) → ∃ a b, a < b ∧ b ≤ N ∧ f a = f b
  | 0, f, h => by have := h 0 (Nat.le_refl _); omega
  | N + 1, f, h => by
    by_cases z : ∃ a, a ≤ N ∧ f a = f (N + 1)
    · obtain ⟨a, ha, e⟩ := z
      exact ⟨a, N + 1, by omega, by omega, e⟩
    · -- the values on 0 .. N avoid f (N+1): rename N to it
      let g : Nat → Nat := fun k => if f k = N then f (N + 1) else f k
      have hg : ∀ k, k ≤ N → g k < N := fun k hk => by
        have h1 := h k (by omega)
        have h2 := h (N + 1) (by omega)
        have h3 : f k ≠ f (N + 1) := fun q => z ⟨k, hk, q⟩
        show (if f k = N then f (N + 1) else f k) < N
        split
        · rename_i q; omega
        · omega
      obtain ⟨a, b, h1, h2, e⟩ := pigeon N g hg
      refine ⟨a, b, h1, by omega, ?_⟩
      have e' : (if f a = N then f (N + 1) else f a) = (if f b = N then f (N + 1) else f b) := e
      have na : f a ≠ f (N + 1) := fun q => z ⟨a, by omega, q⟩
      have nb : f b ≠ f (N + 1) := fun q => z ⟨b, by omega, q⟩
      split at e' <;> split at e'
      · omega
      · exact absurd e'.symm nb
      · exact absurd e' na
      · exact e'
theorem Run.ends {A : Nat → Nat → Int} {m n : Nat} {s : Int} {T : Nat → Nat → Nat → Int} {d : Nat → Int} {B : Nat → Nat → Nat} {r c : Nat → Nat} (R : Run A m n s T d B r c) : False := by
  obtain ⟨a, b, h1, _, e⟩ := pigeon (n ^ m) (fun k => enc n (B k) m) fun k _ => enc_lt m (R.good k).inB
  exact R.no_again h1 (enc_inj m (R.good a).inB (R.good b).inB e)
end MK
set_option maxHeartbeats 4000000
/-! The solver's mirror over lists of lists. Core Lean alone. -/
namespace MK
theorem getD_el {α : Type} (l : List α) (d : α) {i : Nat} (h : i < l.length) : l.getD i d = l[i] := by
  rw [List.getD_eq_getElem?_getD, List.getElem?_eq_getElem h]; rfl
abbrev Mat := List (List Int)
def ent (rows : Mat) (i j : Nat) : Int := (rows.getD i []).getD j 0
/-- the first column below 0 in the last row (its end left out) -/
def risingF (rows : Mat) : Option Nat := ((rows.getLastD []).dropLast).findIdx? fun e => decide (e < 0)
/-- whether the row at bounds the column more than the row b -/
def betterF (rows : Mat) (basis : List Nat) (n c b q : Nat) : Bool :=
  decide (ent rows q n * ent rows b c < ent rows b n * ent rows q c) || (decide (ent rows q n * ent rows b c = ent rows b n * ent rows q c) && decide (basis.getD q 0 < basis.getD b 0))
/-- the row that bounds the column most among the first q rows -/
def boundF (rows : Mat) (basis : List Nat) (n c : Nat) : Nat → Option Nat
  | 0 => none
  | q + 1 => if 0 < ent rows q c then
      (match boundF rows basis n c q with
      | none => some q
      | some b => if betterF rows basis n c b q = true then some q else some b)
    else boundF rows basis n c q
def lineF (row : List Int) (p e d : Int) (es : List Int) : List Int := List.zipWith (fun one own => (one * p - e * own).fdiv d) es row
def exchF (rows : Mat) (d : Int) (r c : Nat) : Mat :=
  (List.range rows.length).map fun i => if i = r then rows.getD r [] else lineF (rows.getD r []) (ent rows r c) (ent rows i c) d (rows.getD i [])
structure SolS where
  rows : Mat
  dv : Int
  basis : List Nat
/-- one turn: m rows bound, n columns -/
def stepS (m n : Nat) (s : SolS) : SolS := match risingF s.rows with
  | none => s
  | some c => (match boundF s.rows s.basis n c m with
    | none => s
    | some r => ⟨exchF s.rows s.dv r c, ent s.rows r c, s.basis.set r c⟩)
def runS (m n : Nat) (s : SolS) : Nat → SolS
  | 0 => s
  | k + 1 => stepS m n (runS m n s k)
def firstS (rows : Mat) (m kx : Nat) : SolS := ⟨rows, 1, (List.range m).map fun i => kx + i⟩
structure Shape (rows : Mat) (m n : Nat) : Prop where
  len : rows.length = m + 1
  each : ∀ row ∈ rows, row.length = n + 1
section
variable {rows : Mat} {m n kx : Nat} {d : Int} {basis : List Nat} {r c : Nat}
theorem Shape.row (h : Shape rows m n) {i : Nat} (hi : i < m + 1) : (rows.getD i []).length = n + 1 := by
  have hl : i < rows.length := by rw [h.len]; exact hi
  rw [getD_el _ _ hl]
  exact h.each _ (List.getElem_mem hl)
theorem Shape.at (h : Shape rows m n) {i : Nat} (hi : i < m + 1) : rows[i]? = some (rows.getD i []) := by
  have hl : i < rows.length := by rw [h.len]; exact hi
  rw [List.getElem?_eq_getElem hl, getD_el _ _ hl]
theorem Shape.ent (h : Shape rows m n) {i j : Nat} (hi : i < m + 1) (hj : j < n + 1) : (rows.getD i [])[j]? = some (MK.ent rows i j) := by
  have hl : j < (rows.getD i []).length := by rw [h.row hi]; exact hj
  unfold MK.ent
  rw [List.getElem?_eq_getElem hl, getD_el _ _ hl]
theorem ent_eq {i j : Nat} {v : Int} (h : (rows.getD i [])[j]? = some v) : ent rows i j = v := by
  unfold ent
  rw [List.getD_eq_getElem?_getD, h]; rfl
theorem exch_shape (h : Shape rows m n) (hr : r < m + 1) : Shape (exchF rows d r c) m n := by
  refine ⟨by simp [exchF, h.len], fun row hm => ?_⟩
  obtain ⟨i, hi, rfl⟩ := List.mem_map.mp hm
  have hi' : i < m + 1 := by rw [← h.len]; exact List.mem_range.mp hi
  split
  · exact h.row hr
  · unfold lineF
    rw [List.length_zipWith, h.row hi', h.row hr]; omega
theorem exch_get (h : Shape rows m n) {i : Nat} (hi : i < m + 1) : (exchF rows d r c).getD i [] = if i = r then rows.getD r [] else lineF (rows.getD r []) (ent rows r c) (ent rows i c) d (rows.getD i []) := by
  unfold exchF
  rw [List.getD_eq_getElem?_getD, List.getElem?_map, List.getElem?_range (by rw [h.len]; exact hi)]
  rfl
theorem exch_same (h : Shape rows m n) (hr : r < m + 1) (j : Nat) : ent (exchF rows d r c) r j = ent rows r j := by
  unfold ent
  rw [exch_get h hr, if_pos rfl]
theorem exch_ent (h : Shape rows m n) (hr : r < m + 1) {i j : Nat} (hi : i < m + 1) (hir : i ≠ r) (hj : j < n + 1) :
    ent (exchF rows d r c) i j = (ent rows i j * ent rows r c - ent rows i c * ent rows r j).fdiv d := by
  refine ent_eq ?_
  rw [exch_get h hi, if_neg hir]
  unfold lineF
  rw [List.getElem?_zipWith, h.ent hi hj, h.ent hr hj]
/-- the last row -/
theorem Shape.last (h : Shape rows m n) : rows.getLastD [] = rows.getD m [] := by
  have e : rows ≠ [] := fun z => by have := h.len; rw [z] at this; simp at this
  rw [List.getLastD_eq_getLast?, List.getLast?_eq_getElem?, h.len, List.getD_eq_getElem?_getD]
  rfl
theorem rising_some (h : Shape rows m n) {c : Nat} (e : risingF rows = some c) : c < n ∧ ent rows m c < 0 ∧ ∀ j, j < c → 0 ≤ ent rows m j := by
  unfold risingF at e
  rw [h.last] at e
  obtain ⟨hc, h1, h2⟩ := List.findIdx?_eq_some_iff_getElem.mp e
  have hrow := h.row (i := m) (by omega)
  have hlen : ((rows.getD m []).dropLast).length = n := by rw [List.length_dropLast, hrow]; omega
  have val : ∀ j (hj : j < ((rows.getD m []).dropLast).length), ((rows.getD m []).dropLast)[j] = ent rows m j := fun j hj => by
    rw [List.getElem_dropLast]
    unfold ent
    exact (getD_el _ _ (by omega)).symm
  refine ⟨by omega, ?_, fun j hj => ?_⟩
  · rw [val c hc] at h1; exact of_decide_eq_true h1
  · have := h2 j hj
    rw [val j (by omega)] at this
    simp at this
    exact this
theorem rising_none (h : Shape rows m n) (e : risingF rows = none) : ∀ j, j < n → 0 ≤ ent rows m j := by
  intro j hj
  unfold risingF at e
  rw [h.last] at e
  have hrow := h.row (i := m) (by omega)
  have hlen : ((rows.getD m []).dropLast).length = n := by rw [List.length_dropLast, hrow]; omega
  have := List.findIdx?_eq_none_iff.mp e ((rows.getD m []).dropLast[j]'(by omega)) (List.getElem_mem _)
  rw [List.getElem_dropLast] at this
  have e2 : ent rows m j = (rows.getD m [])[j]'(by omega) := by unfold ent; rw [getD_el]
  rw [e2]
  simpa using this

/-! ### the row that bounds most -/
/-- row i bounds at least as much as row k -/
def Le (rows : Mat) (basis : List Nat) (n c i k : Nat) : Prop :=
  ent rows i n * ent rows k c < ent rows k n * ent rows i c ∨ (ent rows i n * ent rows k c = ent rows k n * ent rows i c ∧ basis.getD i 0 ≤ basis.getD k 0)
theorem Le.trans {i j k : Nat} (hi : 0 < ent rows i c) (hj : 0 < ent rows j c) (hk : 0 < ent rows k c) (a : Le rows basis n c i j) (b : Le rows basis n c j k) : Le rows basis n c i k := by
  rcases a with a | ⟨a, a'⟩
  · refine .inl (frac_strict hi hj hk a ?_)
    rcases b with b | ⟨b, _⟩ <;> omega
  · rcases b with b | ⟨b, b'⟩
    · -- equal, then below: by the mirrored order
      refine .inl ?_
      have e1 : ent rows i n * ent rows j c * ent rows k c = ent rows j n * ent rows i c * ent rows k c := by rw [a]
      have e2 : ent rows j n * ent rows k c * ent rows i c < ent rows k n * ent rows j c * ent rows i c := Int.mul_lt_mul_of_pos_right b hi
      have e3 : ent rows j c * (ent rows i n * ent rows k c) < ent rows j c * (ent rows k n * ent rows i c) := by grind
      exact Int.lt_of_mul_lt_mul_left e3 (by omega)
    · refine .inr ⟨?_, by omega⟩
      have e3 : ent rows j c * (ent rows i n * ent rows k c) = ent rows j c * (ent rows k n * ent rows i c) := by grind
      exact Int.eq_of_mul_eq_mul_left (by omega) e3
theorem Le.refl (i : Nat) : Le rows basis n c i i := .inr ⟨rfl, Nat.le_refl _⟩
theorem better_le {b q : Nat} (h : betterF rows basis n c b q = true) : Le rows basis n c q b := by
  unfold betterF at h
  rcases Bool.or_eq_true_iff.mp h with h | h
  · exact .inl (of_decide_eq_true h)
  · obtain ⟨h1, h2⟩ := Bool.and_eq_true_iff.mp h
    exact .inr ⟨of_decide_eq_true h1, Nat.le_of_lt (of_decide_eq_true h2)⟩
theorem not_better {b q : Nat} (h : ¬ betterF rows basis n c b q = true) : Le rows basis n c b q := by
  unfold betterF at h
  simp only [Bool.or_eq_true, Bool.and_eq_true, decide_eq_true_eq, not_or, not_and] at h
  obtain ⟨h1, h2⟩ := h
  by_cases z : ent rows q n * ent rows b c = ent rows b n * ent rows q c
  · exact .inr ⟨z.symm, by have := h2 z; omega⟩
  · exact .inl (by omega)
theorem bound_spec : ∀ q, (boundF rows basis n c q = none ∧ ∀ i, i < q → ¬ 0 < ent rows i c) ∨ ∃ r, boundF rows basis n c q = some r ∧ r < q ∧ 0 < ent rows r c ∧ ∀ i, i < q → 0 < ent rows i c → Le rows basis n c r i
  | 0 => .inl ⟨rfl, fun i hi => by omega⟩
  | q + 1 => by
    by_cases z : 0 < ent rows q c
    · rcases bound_spec q with ⟨h1, h2⟩ | ⟨b, h1, h2, h3, h4⟩
      · refine .inr ⟨q, ?_, by omega, z, fun i hi hp => ?_⟩
        · unfold boundF; rw [if_pos z, h1]
        · by_cases e : i = q
          · subst e; exact .refl i
          · exact absurd hp (h2 i (by omega))
      · by_cases y : betterF rows basis n c b q = true
        · refine .inr ⟨q, ?_, by omega, z, fun i hi hp => ?_⟩
          · unfold boundF; rw [if_pos z, h1]; simp only [y, if_true]
          · by_cases e : i = q
            · subst e; exact .refl i
            · exact (better_le y).trans z h3 hp (h4 i (by omega) hp)
        · refine .inr ⟨b, ?_, by omega, h3, fun i hi hp => ?_⟩
          · unfold boundF; rw [if_pos z, h1]; simp only [y]; rfl
          · by_cases e : i = q
            · subst e; exact not_better y
            · exact h4 i (by omega) hp
    · have e : boundF rows basis n c (q + 1) = boundF rows basis n c q := by
        rw [boundF, if_neg z]
      rw [e]
      rcases bound_spec q with ⟨h1, h2⟩ | ⟨b, h1, h2, h3, h4⟩
      · refine .inl ⟨h1, fun i hi => ?_⟩
        by_cases y : i = q
        · subst y; exact z
        · exact h2 i (by omega)
      · refine .inr ⟨b, h1, by omega, h3, fun i hi hp => ?_⟩
        by_cases y : i = q
        · subst y; exact absurd hp z
        · exact h4 i (by omega) hp
end
/-- what holds at each turn -/
structure Turn (A : Nat → Nat → Int) (m n : Nat) (s : Int) (x : SolS) : Prop where
  shape : Shape x.rows m n
  good : Good A m n s (ent x.rows) x.dv fun i => x.basis.getD i 0
  blen : x.basis.length = m
section
variable {A : Nat → Nat → Int} {m n kx : Nat} {s : Int} {x : SolS} {rows : Mat}
theorem Good.congrB {T : Nat → Nat → Int} {d : Int} {B B' : Nat → Nat} (g : Good A m n s T d B) (h : ∀ i, i < m → B i = B' i) : Good A m n s T d B' := by
  have e : ∀ i, bv A m B i = bv A m B' i := fun i => by
    unfold bv
    split
    · rename_i z; rw [h i z]
    · rfl
  refine ⟨g.ss, g.dpos, fun i hi => by rw [← h i hi]; exact g.inB i hi, ?_, fun j hj k hk => ?_, g.rhs⟩
  · rw [← bl_congr (A := A) h]; exact g.hd
  · have := g.hT j hj k hk
    simpa only [e] using this
theorem Turn.pick (h : Init A m n kx) (t : Turn A m n s x) {c : Nat} (e : risingF x.rows = some c) :
    c < n ∧ ∃ r, boundF x.rows x.basis n c m = some r ∧ r < m ∧ 0 < ent x.rows r c ∧ ∀ i, i < m → 0 < ent x.rows i c → Le x.rows x.basis n c r i := by
  obtain ⟨hc, h1, h2⟩ := rising_some t.shape e
  refine ⟨hc, ?_⟩
  rcases bound_spec (rows := x.rows) (basis := x.basis) (n := n) (c := c) m with ⟨_, h4⟩ | ⟨r, h3, h4, h5, h6⟩
  · obtain ⟨i, hi, z⟩ := t.good.bounded h hc
    exact absurd z (h4 i hi)
  · exact ⟨r, h3, h4, h5, h6⟩
theorem getD_set {l : List Nat} {r c i : Nat} (hr : r < l.length) : (l.set r c).getD i 0 = if i = r then c else l.getD i 0 := by
  rw [List.getD_eq_getElem?_getD, List.getD_eq_getElem?_getD]
  by_cases e : i = r
  · subst e; rw [List.getElem?_set_self hr, if_pos rfl]; rfl
  · rw [List.getElem?_set_ne (Ne.symm e), if_neg e]
theorem Turn.exch (h : Init A m n kx) (t : Turn A m n s x) {c r : Nat} (hc : c < n) (hr : r < m) (hp : 0 < ent x.rows r c) (hle : ∀ i, i < m → 0 < ent x.rows i c → Le x.rows x.basis n c r i) :
    Turn A m n s ⟨exchF x.rows x.dv r c, ent x.rows r c, x.basis.set r c⟩ := by
  have g := t.good.step (T' := ent (exchF x.rows x.dv r c)) hr hc hp (fun j _ => exch_same t.shape (by omega) j) (fun i hi hir j hj => exch_ent t.shape (by omega) hi hir (by omega)) (fun i hi z => by
    rcases hle i hi z with q | ⟨q, _⟩ <;> omega)
  refine ⟨exch_shape t.shape (by omega), g.congrB fun i hi => ?_, by simp [t.blen]⟩
  show updB (fun i => x.basis.getD i 0) r c i = (x.basis.set r c).getD i 0
  rw [getD_set (by rw [t.blen]; exact hr)]
  rfl
theorem Turn.step (h : Init A m n kx) (t : Turn A m n s x) : Turn A m n s (stepS m n x) := by
  unfold stepS
  cases e : risingF x.rows with
  | none => exact t
  | some c =>
    obtain ⟨hc, r, h1, h2, h3, h4⟩ := t.pick h e
    simp only [h1]
    exact t.exch h hc h2 h3 h4
theorem Turn.run (h : Init A m n kx) (t : Turn A m n s x) : ∀ k, Turn A m n s (runS m n x k)
  | 0 => t
  | k + 1 => (Turn.run h t k).step h
theorem Good.congrT {T T' : Nat → Nat → Int} {d : Int} {B : Nat → Nat} (g : Good A m n s T d B) (h : ∀ i, i < m + 1 → ∀ j, j ≤ n → T i j = T' i j) : Good A m n s T' d B := by
  refine ⟨g.ss, g.dpos, g.inB, g.hd, fun j hj k hk => ?_, fun i hi => by rw [← h i (by omega) n (Nat.le_refl _)]; exact g.rhs i hi⟩
  rw [← g.hT j hj k hk]
  exact sm_congr _ fun i hi => by rw [h i hi j hj]
theorem Turn.first (h : Init (ent rows) m n kx) (sh : Shape rows m n) : ∃ s, Turn (ent rows) m n s (firstS rows m kx) := by
  obtain ⟨s, g⟩ := Good.first h
  refine ⟨s, sh, g.congrB fun i hi => ?_, by simp [firstS]⟩
  show kx + i = ((List.range m).map fun i => kx + i).getD i 0
  rw [List.getD_eq_getElem?_getD, List.getElem?_map, List.getElem?_range hi]; rfl
/-- the turns end -/
theorem Turn.ends (h : Init A m n kx) (t : Turn A m n s x) : ∃ k, risingF (runS m n x k).rows = none := by
  by_cases z : ∃ k, risingF (runS m n x k).rows = none
  · exact z
  · exfalso
    have some_ : ∀ k, ∃ c, risingF (runS m n x k).rows = some c := fun k => by
      cases e : risingF (runS m n x k).rows with
      | none => exact absurd ⟨k, e⟩ z
      | some c => exact ⟨c, rfl⟩
    have pick : ∀ k, ∃ cr : Nat × Nat, risingF (runS m n x k).rows = some cr.1 ∧ cr.1 < n ∧ boundF (runS m n x k).rows (runS m n x k).basis n cr.1 m = some cr.2 ∧ cr.2 < m ∧ 0 < ent (runS m n x k).rows cr.2 cr.1 ∧
        ∀ i, i < m → 0 < ent (runS m n x k).rows i cr.1 → Le (runS m n x k).rows (runS m n x k).basis n cr.1 cr.2 i := fun k => by
      obtain ⟨c, e⟩ := some_ k
      obtain ⟨hc, r, h1, h2, h3, h4⟩ := (t.run h k).pick h e
      exact ⟨(c, r), e, hc, h1, h2, h3, h4⟩
    have nx : ∀ k (cr : Nat × Nat), risingF (runS m n x k).rows = some cr.1 → boundF (runS m n x k).rows (runS m n x k).basis n cr.1 m = some cr.2 →
        runS m n x (k + 1) = ⟨exchF (runS m n x k).rows (runS m n x k).dv cr.2 cr.1, ent (runS m n x k).rows cr.2 cr.1, (runS m n x k).basis.set cr.2 cr.1⟩ := fun k cr e1 e2 => by
      show stepS m n (runS m n x k) = _
      unfold stepS
      rw [e1]
      simp only [e2]
    have ⟨f, hf⟩ := Classical.axiomOfChoice pick
    refine Run.ends (A := A) (m := m) (n := n) (s := s) (T := fun k => ent (runS m n x k).rows) (d := fun k => (runS m n x k).dv) (B := fun k i => (runS m n x k).basis.getD i 0) (r := fun k => (f k).2) (c := fun k => (f k).1)
      ⟨fun k => (t.run h k).good, fun k => (hf k).2.1, fun k => (rising_some (t.run h k).shape (hf k).1).2.1, fun k j hj => (rising_some (t.run h k).shape (hf k).1).2.2 j hj, fun k => (hf k).2.2.2.1, fun k => (hf k).2.2.2.2.1,
        fun k i hi hp => ?_, fun k => ?_, fun k => ?_, fun k i hi hne => ?_, fun k j hj => ?_, fun k i hi hne j hj => ?_⟩
    · exact (hf k).2.2.2.2.2 i hi hp
    · show (runS m n x (k + 1)).dv = _
      rw [nx k (f k) (hf k).1 (hf k).2.2.1]
    · show (runS m n x (k + 1)).basis.getD (f k).2 0 = _
      rw [nx k (f k) (hf k).1 (hf k).2.2.1]
      show ((runS m n x k).basis.set (f k).2 (f k).1).getD (f k).2 0 = _
      rw [getD_set (by rw [(t.run h k).blen]; exact (hf k).2.2.2.1), if_pos rfl]
    · show (runS m n x (k + 1)).basis.getD i 0 = _
      rw [nx k (f k) (hf k).1 (hf k).2.2.1]
      show ((runS m n x k).basis.set (f k).2 (f k).1).getD i 0 = _
      rw [getD_set (by rw [(t.run h k).blen]; exact (hf k).2.2.2.1), if_neg hne]
    · show ent (runS m n x (k + 1)).rows (f k).2 j = _
      rw [nx k (f k) (hf k).1 (hf k).2.2.1]
      exact exch_same (t.run h k).shape (by have := (hf k).2.2.2.1; omega) j
    · show (runS m n x k).dv * ent (runS m n x (k + 1)).rows i j = _
      rw [nx k (f k) (hf k).1 (hf k).2.2.1]
      have hr := (hf k).2.2.2.1
      rw [show ent (SolS.rows ⟨exchF (runS m n x k).rows (runS m n x k).dv (f k).2 (f k).1, ent (runS m n x k).rows (f k).2 (f k).1, (runS m n x k).basis.set (f k).2 (f k).1⟩) i j = _ from exch_ent (t.run h k).shape (by omega) hi hne (by omega)]
      exact (t.run h k).good.exact hi (by omega) hne (by have := (hf k).2.1; omega) hj
/-- the first turn at which it ends -/
theorem least_of {p : Nat → Prop} (h : ∃ k, p k) : ∃ k, p k ∧ ∀ j, j < k → ¬ p j := by
  obtain ⟨k, hk⟩ := h
  have key : ∀ n k, k ≤ n → p k → ∃ k, p k ∧ ∀ j, j < k → ¬ p j := by
    intro n
    induction n with
    | zero => intro k hk hp; exact ⟨k, hp, fun j hj => by omega⟩
    | succ n ih =>
      intro k hk hp
      by_cases z : ∃ j, j < k ∧ p j
      · obtain ⟨j, hj, hp'⟩ := z
        exact ih j (by omega) hp'
      · exact ⟨k, hp, fun j hj hp' => z ⟨j, hj, hp'⟩⟩
  exact key k k (Nat.le_refl _) hk
noncomputable def lastK (m n : Nat) (x : SolS) : Nat := open Classical in if h : ∃ k, risingF (runS m n x k).rows = none then Classical.choose (least_of h) else 0
/-- the table that is led to the greatest sum -/
noncomputable def lastS (m n : Nat) (x : SolS) : SolS := runS m n x (lastK m n x)
theorem Turn.lastK_spec (h : Init A m n kx) (t : Turn A m n s x) : risingF (runS m n x (lastK m n x)).rows = none ∧ ∀ j, j < lastK m n x → ∃ c, risingF (runS m n x j).rows = some c := by
  have he := t.ends h
  have e : lastK m n x = Classical.choose (least_of he) := by
    unfold lastK; exact dif_pos he
  have hs := Classical.choose_spec (least_of he)
  rw [← e] at hs
  refine ⟨hs.1, fun j hj => ?_⟩
  cases q : risingF (runS m n x j).rows with
  | none => exact absurd q (hs.2 j hj)
  | some c => exact ⟨c, rfl⟩
end
end MK
set_option maxHeartbeats 4000000
/-! The table of a packing, and what its end says. Core Lean alone. -/
namespace MK
/-- the table: sides (places that are together bounded), ends, many places -/
def rowF (many : Nat) (sides : List (List Nat)) (ends : List Int) (at_ : Nat) : List Int :=
  (List.range many).map (fun p => if p ∈ sides.getD at_ [] then 1 else 0) ++ (List.range sides.length).map (fun o => if o = at_ then (1 : Int) else 0) ++ [ends.getD at_ 0]
def lastF (many : Nat) (sides : List (List Nat)) : List Int := (List.range many).map (fun _ => (-1 : Int)) ++ (List.range (sides.length + 1)).map fun _ => (0 : Int)
def tabF (many : Nat) (sides : List (List Nat)) (ends : List Int) : Mat := (List.range sides.length).map (rowF many sides ends) ++ [lastF many sides]
section
variable {many : Nat} {sides : List (List Nat)} {ends : List Int}
theorem tab_shape : Shape (tabF many sides ends) sides.length (many + sides.length) := by
  refine ⟨by simp [tabF], fun row hm => ?_⟩
  rcases List.mem_append.mp hm with h | h
  · obtain ⟨i, _, rfl⟩ := List.mem_map.mp h
    simp [rowF]; omega
  · rw [List.mem_singleton.mp h]
    simp [lastF]; omega
theorem tab_row {k : Nat} (hk : k < sides.length) : (tabF many sides ends).getD k [] = rowF many sides ends k := by
  unfold tabF
  rw [List.getD_eq_getElem?_getD, List.getElem?_append_left (by simpa using hk), List.getElem?_map, List.getElem?_range hk]; rfl
theorem tab_last : (tabF many sides ends).getD sides.length [] = lastF many sides := by
  unfold tabF
  rw [List.getD_eq_getElem?_getD, List.getElem?_append_right (by simp)]; simp
theorem ent_side {k j : Nat} (hk : k < sides.length) (hj : j < many) : ent (tabF many sides ends) k j = if j ∈ sides.getD k [] then 1 else 0 := by
  refine ent_eq ?_
  rw [tab_row hk]
  unfold rowF
  rw [List.append_assoc, List.getElem?_append_left (by simpa using hj), List.getElem?_map, List.getElem?_range hj]; rfl
theorem ent_slack {k j : Nat} (hk : k < sides.length) (hj : j < sides.length) : ent (tabF many sides ends) k (many + j) = if j = k then 1 else 0 := by
  refine ent_eq ?_
  rw [tab_row hk]
  unfold rowF
  rw [List.append_assoc, List.getElem?_append_right (by simp), List.getElem?_append_left (by simpa using hj), List.getElem?_map]
  simp [hj]
theorem ent_end {k : Nat} (hk : k < sides.length) : ent (tabF many sides ends) k (many + sides.length) = ends.getD k 0 := by
  refine ent_eq ?_
  rw [tab_row hk]
  unfold rowF
  rw [List.getElem?_append_right (by simp)]
  simp
theorem ent_lastL {j : Nat} (hj : j < many) : ent (tabF many sides ends) sides.length j = -1 := by
  refine ent_eq ?_
  rw [tab_last]
  unfold lastF
  rw [List.getElem?_append_left (by simpa using hj), List.getElem?_map, List.getElem?_range hj]; rfl
theorem ent_lastR {j : Nat} (hj : j < sides.length + 1) : ent (tabF many sides ends) sides.length (many + j) = 0 := by
  refine ent_eq ?_
  rw [tab_last]
  unfold lastF
  rw [List.getElem?_append_right (by simp), List.getElem?_map]
  simp [hj]
theorem tab_init (h0 : ∀ k, k < sides.length → 0 ≤ ends.getD k 0) (h1 : ∀ j, j < many → ∃ k, k < sides.length ∧ j ∈ sides.getD k []) :
    Init (ent (tabF many sides ends)) sides.length (many + sides.length) many := by
  refine ⟨rfl, fun k hk i hi => ?_, ent_lastR (by omega), fun k hk j hj => ?_, fun j hj => ?_, fun k hk => by rw [ent_end hk]; exact h0 k hk⟩
  · by_cases z : k < sides.length
    · rw [ent_slack z hi]
      by_cases e : i = k
      · rw [if_pos e, if_pos e.symm]
      · rw [if_neg e, if_neg (Ne.symm e)]
    · rw [show k = sides.length by omega, ent_lastR (by omega), if_neg (by omega)]
  · by_cases z : j < many
    · rw [ent_side hk z]; split <;> omega
    · rw [show j = many + (j - many) by omega, ent_slack hk (by omega)]; split <;> omega
  · by_cases z : j < many
    · obtain ⟨k, hk, hm⟩ := h1 j z
      exact ⟨k, hk, by rw [ent_side hk z, if_pos hm]; omega⟩
    · refine ⟨j - many, by omega, ?_⟩
      rw [show j = many + (j - many) by omega, ent_slack (by omega) (by omega)]
      rw [if_pos (by omega)]; omega
theorem tab_one {k j : Nat} (hk : k < sides.length + 1) (hj : j < many + sides.length) : (ent (tabF many sides ends) k j).natAbs ≤ 1 := by
  by_cases z : k < sides.length
  · by_cases y : j < many
    · rw [ent_side z y]; split <;> decide
    · rw [show j = many + (j - many) by omega, ent_slack z (by omega)]; split <;> decide
  · rw [show k = sides.length by omega]
    by_cases y : j < many
    · rw [ent_lastL y]; decide
    · rw [show j = many + (j - many) by omega, ent_lastR (by omega)]; decide
theorem tab_end_le {R : Nat} (hR : ∀ k, k < sides.length → (ends.getD k 0).natAbs ≤ R) {k : Nat} (hk : k < sides.length + 1) : (ent (tabF many sides ends) k (many + sides.length)).natAbs ≤ R := by
  by_cases z : k < sides.length
  · rw [ent_end z]; exact hR k z
  · rw [show k = sides.length by omega, ent_lastR (by omega)]; simp
end

/-! ### what the end of the turns says -/
/-- what a column has -/
def toldF (x : SolS) (n j : Nat) : Int := match x.basis.findIdx? (fun b => b == j) with
  | some i => ent x.rows i n
  | none => 0
section
variable {A : Nat → Nat → Int} {m n kx : Nat} {s : Int} {x : SolS}
theorem told_sum (t : Turn A m n s x) (j : Nat) : toldF x n j = sm m fun i => if x.basis.getD i 0 = j then ent x.rows i n else 0 := by
  unfold toldF
  cases e : x.basis.findIdx? (fun b => b == j) with
  | none =>
    have h := List.findIdx?_eq_none_iff.mp e
    refine (sm_zero m fun i hi => ?_).symm
    rw [if_neg]
    intro q
    have hl : i < x.basis.length := by rw [t.blen]; exact hi
    have := h (x.basis[i]) (List.getElem_mem hl)
    rw [getD_el _ _ hl] at q
    rw [q] at this
    simp at this
  | some i =>
    obtain ⟨hi, h1, _⟩ := List.findIdx?_eq_some_iff_getElem.mp e
    have hb : x.basis.getD i 0 = j := by rw [getD_el _ _ hi]; exact eq_of_beq h1
    rw [t.blen] at hi
    rw [sm_one (k := i) m hi]
    · rw [if_pos hb]
    · intro q hq hne
      rw [if_neg]
      intro z
      exact hne (t.good.inj hq hi (by rw [z, hb]))
/-- a sum over the basis is one over the columns -/
theorem told_w (t : Turn A m n s x) (w : Nat → Int) : sm n (fun j => toldF x n j * w j) = sm m fun i => ent x.rows i n * w (x.basis.getD i 0) := by
  have e : ∀ j, j < n → toldF x n j * w j = sm m fun i => if x.basis.getD i 0 = j then ent x.rows i n * w j else 0 := fun j _ => by
    rw [told_sum t, Int.mul_comm, ← sm_mul]
    refine sm_congr m fun i _ => ?_
    split
    · exact Int.mul_comm _ _
    · exact Int.mul_zero _
  rw [sm_congr n e, sm_comm (fun j i => if x.basis.getD i 0 = j then ent x.rows i n * w j else 0)]
  refine sm_congr m fun i hi => ?_
  rw [sm_one (k := x.basis.getD i 0) n (t.good.inB i hi) fun j _ hne => if_neg (Ne.symm hne), if_pos rfl]
theorem told_nonneg (t : Turn A m n s x) (j : Nat) : 0 ≤ toldF x n j := by
  rw [told_sum t]
  refine sm_nonneg m fun i hi => ?_
  split
  · exact t.good.rhs i hi
  · exact Int.le_refl _
theorem told_row (t : Turn A m n s x) {k : Nat} (hk : k < m) : sm n (fun j => toldF x n j * A k j) = x.dv * A k n := by
  rw [told_w t (fun j => A k j), ← t.good.hT n (Nat.le_refl _) k (by omega)]
  show _ = sm m _ + _
  have : bv A m (fun i => x.basis.getD i 0) m k = 0 := by
    simp only [bv, Nat.lt_irrefl, if_false]
    show (if k = m then (1 : Int) else 0) = 0
    rw [if_neg (by omega)]
  simp only [this, Int.mul_zero, Int.add_zero]
  refine sm_congr m fun i hi => ?_
  simp [bv, hi, col]
theorem told_last (t : Turn A m n s x) (h : Init A m n kx) : sm n (fun j => toldF x n j * A m j) = - ent x.rows m n := by
  rw [told_w t (fun j => A m j)]
  have e := t.good.hT n (Nat.le_refl _) m (by omega)
  rw [h.last] at e
  have e2 : sm m (fun i => ent x.rows i n * bv A m (fun i => x.basis.getD i 0) i m) + ent x.rows m n * bv A m (fun i => x.basis.getD i 0) m m = x.dv * 0 := e
  have : bv A m (fun i => x.basis.getD i 0) m m = 1 := by
    simp only [bv, Nat.lt_irrefl, if_false]
    show (if m = m then (1 : Int) else 0) = 1
    rw [if_pos rfl]
  rw [this] at e2
  have e3 : sm m (fun i => ent x.rows i n * A m (x.basis.getD i 0)) = sm m (fun i => ent x.rows i n * bv A m (fun i => x.basis.getD i 0) i m) := sm_congr m fun i hi => by simp [bv, hi, col]
  omega
end
/-- the end of a packing's turns, in integers: u, what each row costs; f, what each place has -/
structure LpEnd (many : Nat) (sides : List (List Nat)) (ends : List Int) (d W : Int) (u f : Nat → Int) : Prop where
  dpos : 0 < d
  u0 : ∀ k, k < sides.length → 0 ≤ u k
  dual : ∀ j, j < many → d ≤ sm sides.length fun k => (if j ∈ sides.getD k [] then 1 else 0) * u k
  cost : W = sm sides.length fun k => ends.getD k 0 * u k
  f0 : ∀ j, j < many → 0 ≤ f j
  prim : ∀ k, k < sides.length → sm many (fun j => f j * (if j ∈ sides.getD k [] then 1 else 0)) ≤ d * ends.getD k 0
  sum : sm many f = W
theorem lp_end {many : Nat} {sides : List (List Nat)} {ends : List Int} {s : Int} {x : SolS} (h0 : ∀ k, k < sides.length → 0 ≤ ends.getD k 0) (h1 : ∀ j, j < many → ∃ k, k < sides.length ∧ j ∈ sides.getD k [])
    (t : Turn (ent (tabF many sides ends)) sides.length (many + sides.length) s x) (e : risingF x.rows = none) :
    LpEnd many sides ends x.dv (ent x.rows sides.length (many + sides.length)) (fun k => ent x.rows sides.length (many + k)) (toldF x (many + sides.length)) := by
  have hi := tab_init (many := many) h0 h1
  have hz := rising_none t.shape e
  refine ⟨t.good.dpos, fun k hk => hz _ (by omega), fun j hj => ?_, ?_, fun j _ => told_nonneg t j, fun k hk => ?_, ?_⟩
  · have r := t.good.rows hi (i := sides.length) (j := j) (by omega) (by omega)
    rw [if_pos rfl, ent_lastL hj] at r
    have r0 := hz j (by omega)
    have e2 : sm sides.length (fun k => (if j ∈ sides.getD k [] then 1 else 0) * ent x.rows sides.length (many + k)) = sm sides.length fun k => ent (tabF many sides ends) k j * ent x.rows sides.length (many + k) := sm_congr _ fun k hk => by rw [ent_side hk hj]
    rw [e2]
    omega
  · have r := t.good.rows hi (i := sides.length) (j := many + sides.length) (by omega) (Nat.le_refl _)
    rw [if_pos rfl, hi.last, Int.mul_zero, Int.add_zero] at r
    rw [r]
    exact sm_congr _ fun k hk => by rw [ent_end hk]
  · have r := told_row t hk
    rw [ent_end hk, sm_append] at r
    have e1 : sm many (fun j => toldF x (many + sides.length) j * ent (tabF many sides ends) k j) = sm many fun j => toldF x (many + sides.length) j * (if j ∈ sides.getD k [] then 1 else 0) := sm_congr _ fun j hj => by rw [ent_side hk hj]
    have e2 : 0 ≤ sm sides.length fun j => toldF x (many + sides.length) (many + j) * ent (tabF many sides ends) k (many + j) := sm_nonneg _ fun j hj => by
      rw [ent_slack hk hj]
      refine Int.mul_nonneg (told_nonneg t _) ?_
      split <;> omega
    rw [e1] at r
    omega
  · have r := told_last t hi
    rw [sm_append] at r
    have e1 : sm many (fun j => toldF x (many + sides.length) j * ent (tabF many sides ends) sides.length j) = - sm many (toldF x (many + sides.length)) := by
      rw [show - sm many (toldF x (many + sides.length)) = (-1) * sm many (toldF x (many + sides.length)) by omega, ← sm_mul]
      exact sm_congr _ fun j hj => by rw [ent_lastL hj]; omega
    have e2 : sm sides.length (fun j => toldF x (many + sides.length) (many + j) * ent (tabF many sides ends) sides.length (many + j)) = 0 := sm_zero _ fun j hj => by rw [ent_lastR (by omega), Int.mul_zero]
    rw [e1, e2] at r
    omega
end MK
set_option maxHeartbeats 4000000
/-! Sums of rationals over lists; the prices, the row and the worth of a packing. Core Lean alone. -/
namespace MK
section
variable {α : Type}
def rsum : List α → (α → Rat) → Rat
  | [], _ => 0
  | a :: l, f => f a + rsum l f
theorem rsum_congr {f g : α → Rat} : ∀ (l : List α), (∀ a ∈ l, f a = g a) → rsum l f = rsum l g
  | [], _ => rfl
  | a :: l, h => by
    show f a + rsum l f = g a + rsum l g
    rw [h a List.mem_cons_self, rsum_congr l fun b hb => h b (List.mem_cons_of_mem _ hb)]
theorem rsum_add (f g : α → Rat) : ∀ l, rsum l (fun a => f a + g a) = rsum l f + rsum l g
  | [] => by show (0 : Rat) = 0 + 0; grind
  | a :: l => by
    show (f a + g a) + rsum l (fun a => f a + g a) = (f a + rsum l f) + (g a + rsum l g)
    rw [rsum_add f g l]; grind
theorem rsum_mul (c : Rat) (f : α → Rat) : ∀ l, rsum l (fun a => c * f a) = c * rsum l f
  | [] => by show (0 : Rat) = c * 0; grind
  | a :: l => by
    show c * f a + rsum l (fun a => c * f a) = c * (f a + rsum l f)
    rw [rsum_mul c f l]; grind
theorem rsum_le {f g : α → Rat} : ∀ (l : List α), (∀ a ∈ l, f a ≤ g a) → rsum l f ≤ rsum l g
  | [], _ => Rat.le_refl
  | a :: l, h => by
    show f a + rsum l f ≤ g a + rsum l g
    have h1 := h a List.mem_cons_self
    have h2 := rsum_le l fun b hb => h b (List.mem_cons_of_mem _ hb)
    grind
theorem rsum_zero {f : α → Rat} : ∀ (l : List α), (∀ a ∈ l, f a = 0) → rsum l f = 0
  | [], _ => rfl
  | a :: l, h => by
    show f a + rsum l f = 0
    rw [h a List.mem_cons_self, rsum_zero l fun b hb => h b (List.mem_cons_of_mem _ hb)]; grind
theorem rsum_nonneg {f : α → Rat} (l : List α) (h : ∀ a ∈ l, 0 ≤ f a) : 0 ≤ rsum l f := by
  have := rsum_le (f := fun _ => 0) (g := f) l h
  rw [rsum_zero l fun _ _ => rfl] at this
  exact this
theorem rsum_append (f : α → Rat) : ∀ l k, rsum (l ++ k) f = rsum l f + rsum k f
  | [], k => by show rsum k f = 0 + rsum k f; grind
  | a :: l, k => by
    show f a + rsum (l ++ k) f = (f a + rsum l f) + rsum k f
    rw [rsum_append f l k]; grind
theorem rsum_perm {f : α → Rat} {l k : List α} (h : l.Perm k) : rsum l f = rsum k f := by
  induction h with
  | nil => rfl
  | cons a _ ih => show f a + _ = f a + _; rw [ih]
  | swap a b l => show f b + (f a + _) = f a + (f b + _); grind
  | trans _ _ ih1 ih2 => rw [ih1, ih2]
theorem rsum_comm {β : Type} (f : α → β → Rat) (k : List β) : ∀ l : List α, rsum l (fun a => rsum k (f a)) = rsum k fun b => rsum l fun a => f a b
  | [] => (rsum_zero k fun _ _ => rfl).symm
  | a :: l => by
    show rsum k (f a) + rsum l (fun a => rsum k (f a)) = rsum k fun b => f a b + rsum l fun a => f a b
    rw [rsum_comm f k l, rsum_add]
theorem rsum_filter (p : α → Bool) (f : α → Rat) : ∀ l : List α, rsum (l.filter p) f = rsum l fun a => if p a = true then f a else 0
  | [] => rfl
  | a :: l => by
    show _ = (if p a = true then f a else 0) + rsum l _
    rw [← rsum_filter p f l, List.filter_cons]
    split
    · rfl
    · show _ = 0 + _; grind
theorem rsum_map {β : Type} (g : α → β) (f : β → Rat) : ∀ l : List α, rsum (l.map g) f = rsum l fun a => f (g a)
  | [] => rfl
  | a :: l => by show f (g a) + _ = f (g a) + _; rw [rsum_map g f l]
theorem rsum_mem_le {f : α → Rat} : ∀ {l : List α} {a : α}, (∀ b ∈ l, 0 ≤ f b) → a ∈ l → f a ≤ rsum l f
  | [], _, _, h => by cases h
  | b :: l, a, h0, h => by
    show f a ≤ f b + rsum l f
    have h1 : 0 ≤ rsum l f := rsum_nonneg l fun c hc => h0 c (List.mem_cons_of_mem _ hc)
    have h2 := h0 b List.mem_cons_self
    rcases List.mem_cons.mp h with e | h
    · rw [e]; grind
    · have := rsum_mem_le (fun c hc => h0 c (List.mem_cons_of_mem _ hc)) h
      grind
variable [DecidableEq α]
set_option linter.unusedSectionVars false
/-- nothing outside a part: the sum over the part -/
theorem rsum_sub {f : α → Rat} {l k : List α} (hl : l.Nodup) (hk : k.Nodup) (hs : ∀ a ∈ k, a ∈ l) (hz : ∀ a ∈ l, a ∉ k → f a = 0) : rsum l f = rsum k f := by
  have e : rsum l f = rsum (l.filter fun a => decide (a ∈ k)) f := by
    rw [rsum_filter]
    refine rsum_congr l fun a ha => ?_
    by_cases z : a ∈ k
    · simp [z]
    · simp [z, hz a ha z]
  rw [e]
  refine rsum_perm ?_
  refine (List.perm_ext_iff_of_nodup (hl.filter _) hk).mpr fun a => ?_
  rw [List.mem_filter]
  constructor
  · intro h; exact of_decide_eq_true h.2
  · intro h; exact ⟨hs a h, decide_eq_true h⟩
end
/-! ### sums by places -/
def sq : Nat → (Nat → Rat) → Rat
  | 0, _ => 0
  | n + 1, f => sq n f + f n
theorem sq_congr {f g : Nat → Rat} : ∀ (n : Nat), (∀ i, i < n → f i = g i) → sq n f = sq n g
  | 0, _ => rfl
  | n + 1, h => by show sq n f + f n = sq n g + g n; rw [sq_congr n fun i hi => h i (by omega), h n (by omega)]
theorem sq_mul (c : Rat) (f : Nat → Rat) : ∀ n, sq n (fun i => c * f i) = c * sq n f
  | 0 => by simp [sq]
  | n + 1 => by show sq n (fun i => c * f i) + c * f n = c * (sq n f + f n); rw [sq_mul c f n]; grind
theorem sq_append (f : Nat → Rat) (m : Nat) : ∀ n, sq (m + n) f = sq m f + sq n fun i => f (m + i)
  | 0 => by show sq m f = sq m f + 0; grind
  | n + 1 => by
    show sq (m + n) f + f (m + n) = sq m f + (sq n (fun i => f (m + i)) + f (m + n))
    rw [sq_append f m n]; grind
theorem sq_cast (f : Nat → Int) : ∀ n, ((sm n f : Int) : Rat) = sq n fun i => ((f i : Int) : Rat)
  | 0 => rfl
  | n + 1 => by
    show ((sm n f + f n : Int) : Rat) = sq n _ + ((f n : Int) : Rat)
    rw [← sq_cast f n]; grind
theorem sq_succ' (f : Nat → Rat) : ∀ n, sq (n + 1) f = f 0 + sq n fun i => f (i + 1)
  | 0 => by show (0 : Rat) + f 0 = f 0 + 0; grind
  | n + 1 => by
    show sq (n + 1) f + f (n + 1) = f 0 + (sq n (fun i => f (i + 1)) + f (n + 1))
    rw [sq_succ' f n]; grind
theorem rsum_sq {α : Type} (d : α) (f : α → Rat) : ∀ l : List α, rsum l f = sq l.length fun j => f (l.getD j d)
  | [] => rfl
  | a :: l => by
    show f a + rsum l f = sq (l.length + 1) _
    rw [sq_succ', rsum_sq d f l]
    rfl
theorem sq_one {f : Nat → Rat} {k : Nat} : ∀ (n : Nat), k < n → (∀ i, i < n → i ≠ k → f i = 0) → sq n f = f k
  | 0, h, _ => by omega
  | n + 1, h, z => by
    show sq n f + f n = f k
    by_cases e : n = k
    · subst e
      have : sq n f = 0 := by
        have : ∀ m, m ≤ n → sq m f = 0 := by
          intro m
          induction m with
          | zero => intro _; rfl
          | succ m ih => intro hm; show sq m f + f m = 0; rw [ih (by omega), z m (by omega) (by omega)]; grind
        exact this n (Nat.le_refl _)
      rw [this]; grind
    · rw [sq_one n (by omega) fun i hi => z i (by omega), z n (by omega) e]; grind

/-! ### the packing -/
section
variable {α : Type} [DecidableEq α]
/-- the places whose texts may be read as r -/
def grpF (of : α → List α) (texts : List α) (r : α) : List Nat := (List.range texts.length).filter fun j => match texts[j]? with
  | some t => decide (r ∈ of t)
  | none => false
theorem grp_mem {of : α → List α} {texts : List α} {r : α} {j : Nat} : j ∈ grpF of texts r ↔ ∃ t, texts[j]? = some t ∧ r ∈ of t := by
  unfold grpF
  rw [List.mem_filter, List.mem_range]
  constructor
  · rintro ⟨h1, h2⟩
    rw [List.getElem?_eq_getElem h1] at h2 ⊢
    exact ⟨_, rfl, of_decide_eq_true h2⟩
  · rintro ⟨t, h1, h2⟩
    refine ⟨(List.getElem?_eq_some_iff.mp h1).1, ?_⟩
    rw [h1]; exact decide_eq_true h2
/-- of those with the same group the first -/
def pickF (g : α → List Nat) : List α → List α → List α
  | rs, [] => rs
  | rs, r :: l => if g r ∈ rs.map g then pickF g rs l else pickF g (rs ++ [r]) l
theorem pick_sub (g : α → List Nat) : ∀ (l rs : List α) (a : α), a ∈ pickF g rs l → a ∈ rs ∨ a ∈ l
  | [], _, _, h => .inl h
  | r :: l, rs, a, h => by
    unfold pickF at h
    split at h
    · rcases pick_sub g l rs a h with z | z
      · exact .inl z
      · exact .inr (List.mem_cons_of_mem _ z)
    · rcases pick_sub g l (rs ++ [r]) a h with z | z
      · rcases List.mem_append.mp z with z | z
        · exact .inl z
        · rw [List.mem_singleton.mp z]; exact .inr List.mem_cons_self
      · exact .inr (List.mem_cons_of_mem _ z)
theorem pick_keep (g : α → List Nat) : ∀ (l rs : List α) (a : α), a ∈ rs → a ∈ pickF g rs l
  | [], _, _, h => h
  | r :: l, rs, a, h => by
    unfold pickF
    split
    · exact pick_keep g l rs a h
    · exact pick_keep g l _ a (List.mem_append_left _ h)
theorem pick_nodup (g : α → List Nat) : ∀ (l rs : List α), (rs.map g).Nodup → ((pickF g rs l).map g).Nodup
  | [], _, h => h
  | r :: l, rs, h => by
    unfold pickF
    split
    · exact pick_nodup g l rs h
    · rename_i z
      refine pick_nodup g l _ ?_
      rw [List.map_append, List.nodup_append]
      refine ⟨h, by simp, fun a ha b hb e => ?_⟩
      rw [List.map_singleton, List.mem_singleton] at hb
      rw [e, hb] at ha
      exact z ha
theorem pick_same (g : α → List Nat) : ∀ (l rs : List α) (a : α), a ∈ l → ∃ b ∈ pickF g rs l, g b = g a
  | [], _, _, h => by cases h
  | r :: l, rs, a, h => by
    unfold pickF
    rcases List.mem_cons.mp h with e | h
    · subst e
      split
      · rename_i z
        obtain ⟨b, hb, e⟩ := List.mem_map.mp z
        exact ⟨b, pick_keep g l rs b hb, e⟩
      · exact ⟨a, pick_keep g l _ a (List.mem_append_right _ (List.mem_singleton.mpr rfl)), rfl⟩
    · split
      · exact pick_same g l rs a h
      · exact pick_same g l _ a h
theorem nodup_of_map {β : Type} (g : α → β) : ∀ {l : List α}, (l.map g).Nodup → l.Nodup
  | [], _ => List.nodup_nil
  | a :: l, h => by
    rw [List.map_cons, List.nodup_cons] at h
    exact List.nodup_cons.mpr ⟨fun hm => h.1 (List.mem_map_of_mem hm), nodup_of_map g h.2⟩
end
section
variable {α : Type} [DecidableEq α]
theorem idx_at : ∀ {l : List α} {j : Nat} {a : α}, l.Nodup → l[j]? = some a → l.idxOf a = j
  | [], j, a, _, h => by simp at h
  | b :: l, 0, a, _, h => by
    have e : b = a := by simpa using h
    rw [e, List.idxOf_cons_self]
  | b :: l, j + 1, a, hn, h => by
    obtain ⟨h1, h2⟩ := List.nodup_cons.mp hn
    have h' : l[j]? = some a := by simpa using h
    have hm : a ∈ l := List.mem_of_getElem? h'
    have ne : b ≠ a := fun e => h1 (e ▸ hm)
    have ih := idx_at h2 h'
    have hb : (b == a) = false := by simp [ne]
    rw [List.idxOf_cons, ih, hb]
    rfl
theorem idx_mem {l : List α} {a : α} (h : a ∈ l) : l[l.idxOf a]? = some a := by
  obtain ⟨j, hj, e⟩ := List.mem_iff_getElem.mp h
  have hlt : l.idxOf a < l.length := List.idxOf_lt_length_iff.mpr h
  rw [List.getElem?_eq_getElem hlt, List.getElem_idxOf]
/-- a common multiple -/
def unitI (whole : Int) (lev : Rat) : Int := ((whole.natAbs.lcm lev.den : Nat) : Int)
theorem unit_pos {whole : Int} {lev : Rat} (h : 0 < whole) : 0 < unitI whole lev := by
  unfold unitI
  have : 0 < whole.natAbs.lcm lev.den := Nat.lcm_pos (by omega) lev.den_pos
  omega
theorem unit_whole {whole : Int} {lev : Rat} (h : 0 < whole) : unitI whole lev / whole * whole = unitI whole lev := by
  refine Int.ediv_mul_cancel ?_
  unfold unitI
  have := Nat.dvd_lcm_left whole.natAbs lev.den
  rw [← Int.natAbs_of_nonneg (Int.le_of_lt h)]
  exact Int.natCast_dvd_natCast.mpr (by simpa using this)
theorem unit_lev {whole : Int} {lev : Rat} : unitI whole lev / (lev.den : Int) * (lev.den : Int) = unitI whole lev := by
  refine Int.ediv_mul_cancel ?_
  unfold unitI
  exact Int.natCast_dvd_natCast.mpr (Nat.dvd_lcm_right _ _)
def sidesF (many : Nat) (gs : List (List Nat)) : List (List Nat) := (List.range many).map (fun p => [p]) ++ gs
def endsF (bounds : List Int) (lev : Int) (G : Nat) : List Int := bounds ++ (List.range G).map fun _ => lev
theorem sides_len {many : Nat} {gs : List (List Nat)} : (sidesF many gs).length = many + gs.length := by simp [sidesF]
theorem sides_own {many : Nat} {gs : List (List Nat)} {k : Nat} (h : k < many) : (sidesF many gs).getD k [] = [k] := by
  unfold sidesF
  rw [List.getD_eq_getElem?_getD, List.getElem?_append_left (by simpa using h), List.getElem?_map, List.getElem?_range h]; rfl
theorem sides_grp {many : Nat} {gs : List (List Nat)} {g : Nat} : (sidesF many gs).getD (many + g) [] = gs.getD g [] := by
  unfold sidesF
  rw [List.getD_eq_getElem?_getD, List.getElem?_append_right (by simp), List.getD_eq_getElem?_getD]; simp
theorem ends_own {bounds : List Int} {lev : Int} {G k : Nat} (h : k < bounds.length) : (endsF bounds lev G).getD k 0 = bounds.getD k 0 := by
  unfold endsF
  rw [List.getD_eq_getElem?_getD, List.getElem?_append_left h, List.getD_eq_getElem?_getD]
theorem ends_grp {bounds : List Int} {lev : Int} {G g : Nat} (h : g < G) : (endsF bounds lev G).getD (bounds.length + g) 0 = lev := by
  unfold endsF
  rw [List.getD_eq_getElem?_getD, List.getElem?_append_right (by omega)]
  simp [h]
/-- what goes into a packing -/
structure PkIn (texts : List α) (wt : α → Int) (whole : Int) (lev : Rat) (of : α → List α) (readers readable : List α) : Prop where
  nd : texts.Nodup
  w0 : ∀ t ∈ texts, 0 ≤ wt t
  wh : 0 < whole
  l0 : 0 ≤ lev
  ofnd : ∀ t ∈ texts, (of t).Nodup
  rnd : readers.Nodup
  rsub : ∀ b ∈ readers, b ∈ readable
  and_ : readable.Nodup
def boundsF (texts : List α) (wt : α → Int) (whole : Int) (lev : Rat) : List Int := texts.map fun t => wt t * (unitI whole lev / whole)
def levI (whole : Int) (lev : Rat) : Int := lev.num * (unitI whole lev / (lev.den : Int))
/-- what comes out, in rationals: u and v (prices), f (a row), W (the worth) -/
structure PkOut (texts : List α) (wt : α → Int) (whole : Int) (lev : Rat) (of : α → List α) (readable : List α) (u v f : α → Rat) (W : Rat) : Prop where
  u0 : ∀ t, 0 ≤ u t
  v0 : ∀ r, 0 ≤ v r
  dual : ∀ t ∈ texts, 1 ≤ u t + rsum (of t) v
  cost : W = rsum texts (fun t => (wt t : Rat) / (whole : Rat) * u t) + lev * rsum readable v
  f0 : ∀ t ∈ texts, 0 ≤ f t
  f1 : ∀ t ∈ texts, f t ≤ (wt t : Rat) / (whole : Rat)
  sum : rsum texts f = W
def uF (texts : List α) (d : Int) (u : Nat → Int) (t : α) : Rat := if t ∈ texts then ((u (texts.idxOf t) : Int) : Rat) / (d : Rat) else 0
def vF (many : Nat) (readers : List α) (d : Int) (u : Nat → Int) (r : α) : Rat := if r ∈ readers then ((u (many + readers.idxOf r) : Int) : Rat) / (d : Rat) else 0
def fF (texts : List α) (d unit : Int) (f : Nat → Int) (t : α) : Rat := ((f (texts.idxOf t) : Int) : Rat) / ((d * unit : Int) : Rat)
theorem cast_pos {a : Int} (h : 0 < a) : (0 : Rat) < (a : Rat) := by exact_mod_cast Rat.intCast_pos.mpr h
theorem cast_nn {a : Int} (h : 0 ≤ a) : (0 : Rat) ≤ (a : Rat) := Rat.intCast_nonneg.mpr h
theorem div_nn {a b : Rat} (ha : 0 ≤ a) (hb : 0 < b) : 0 ≤ a / b := by
  rw [Rat.div_def]
  exact Rat.mul_nonneg ha (Rat.le_of_lt (Rat.inv_pos.mpr hb))
theorem div_le {a b c : Rat} (hc : 0 < c) (h : a ≤ b) : a / c ≤ b / c := by
  rw [Rat.div_def, Rat.div_def]
  exact Rat.mul_le_mul_of_nonneg_right h (Rat.le_of_lt (Rat.inv_pos.mpr hc))
theorem pk_out {texts : List α} {wt : α → Int} {whole : Int} {lev : Rat} {of : α → List α} {readers readable : List α} {d W : Int} {u f : Nat → Int} (I : PkIn texts wt whole lev of readers readable)
    (E : LpEnd texts.length (sidesF texts.length (readers.map (grpF of texts))) (endsF (boundsF texts wt whole lev) (levI whole lev) readers.length) d W u f) :
    PkOut texts wt whole lev of readable (uF texts d u) (vF texts.length readers d u) (fF texts d (unitI whole lev) f) ((W : Rat) / ((d * unitI whole lev : Int) : Rat)) := by
  have hU := unit_pos (whole := whole) (lev := lev) I.wh
  have hd := cast_pos E.dpos
  have hUq := cast_pos hU
  have hWq := cast_pos I.wh
  have hLq : (0 : Rat) < (lev.den : Rat) := by exact_mod_cast cast_pos (show (0 : Int) < (lev.den : Int) by have := lev.den_pos; omega)
  have hlen : (sidesF texts.length (readers.map (grpF of texts))).length = texts.length + readers.length := by rw [sides_len, List.length_map]
  have hbl : (boundsF texts wt whole lev).length = texts.length := by simp [boundsF]
  have uPos : ∀ k, k < texts.length + readers.length → 0 ≤ u k := fun k hk => E.u0 k (by rw [hlen]; exact hk)
  have uAt : ∀ j t, texts[j]? = some t → uF texts d u t = ((u j : Int) : Rat) / (d : Rat) := fun j t h => by
    unfold uF
    rw [if_pos (List.mem_of_getElem? h), idx_at I.nd h]
  have vAt : ∀ g r, readers[g]? = some r → vF texts.length readers d u r = ((u (texts.length + g) : Int) : Rat) / (d : Rat) := fun g r h => by
    unfold vF
    rw [if_pos (List.mem_of_getElem? h), idx_at I.rnd h]
  have fAt : ∀ j t, texts[j]? = some t → fF texts d (unitI whole lev) f t = ((f j : Int) : Rat) / ((d * unitI whole lev : Int) : Rat) := fun j t h => by
    unfold fF
    rw [idx_at I.nd h]
  have v0 : ∀ r, 0 ≤ vF texts.length readers d u r := fun r => by
    unfold vF
    split
    · rename_i h
      have := List.idxOf_lt_length_iff.mpr h
      exact div_nn (cast_nn (uPos _ (by omega))) hd
    · exact Rat.le_refl
  have hdU : (0 : Rat) < ((d * unitI whole lev : Int) : Rat) := cast_pos (Int.mul_pos E.dpos hU)
  have eDU : ((d * unitI whole lev : Int) : Rat) = (d : Rat) * (unitI whole lev : Rat) := by grind
  have bAt : ∀ j t, texts[j]? = some t → (boundsF texts wt whole lev).getD j 0 = wt t * (unitI whole lev / whole) := fun j t h => by
    unfold boundsF
    rw [List.getD_eq_getElem?_getD, List.getElem?_map, h]; rfl
  have cw : ((unitI whole lev / whole : Int) : Rat) * (whole : Rat) = (unitI whole lev : Rat) := by
    have := congrArg (fun z : Int => (z : Rat)) (unit_whole (whole := whole) (lev := lev) I.wh)
    have e : ((unitI whole lev / whole * whole : Int) : Rat) = ((unitI whole lev / whole : Int) : Rat) * (whole : Rat) := by grind
    rw [← e]; exact this
  have cl : ((unitI whole lev / (lev.den : Int) : Int) : Rat) * (lev.den : Rat) = (unitI whole lev : Rat) := by
    have := congrArg (fun z : Int => (z : Rat)) (unit_lev (whole := whole) (lev := lev))
    have e : ((unitI whole lev / (lev.den : Int) * (lev.den : Int) : Int) : Rat) = ((unitI whole lev / (lev.den : Int) : Int) : Rat) * ((lev.den : Int) : Rat) := by grind
    have e2 : ((lev.den : Int) : Rat) = (lev.den : Rat) := rfl
    rw [← e2, ← e]; exact this
  have el : lev * (lev.den : Rat) = (lev.num : Rat) := by
    have := Rat.num_divInt_den lev
    rw [Rat.divInt_eq_div] at this
    have e2 : ((lev.den : Int) : Rat) = (lev.den : Rat) := rfl
    rw [e2] at this
    have hn : (lev.den : Rat) ≠ 0 := by grind
    have h3 : (lev.num : Rat) / (lev.den : Rat) * (lev.den : Rat) = (lev.num : Rat) := by grind
    rw [this] at h3
    exact h3
  refine ⟨fun t => ?_, v0, fun t ht => ?_, ?_, fun t ht => ?_, fun t ht => ?_, ?_⟩
  · unfold uF
    split
    · rename_i h
      have := List.idxOf_lt_length_iff.mpr h
      exact div_nn (cast_nn (uPos _ (by omega))) hd
    · exact Rat.le_refl
  · obtain ⟨j, hj, e⟩ := List.mem_iff_getElem.mp ht
    have hjt : texts[j]? = some t := by rw [List.getElem?_eq_getElem hj, e]
    have D := E.dual j hj
    rw [hlen, sm_append] at D
    have d1 : sm texts.length (fun k => (if j ∈ (sidesF texts.length (readers.map (grpF of texts))).getD k [] then (1 : Int) else 0) * u k) = u j := by
      rw [sm_one (k := j) _ hj fun i hi hne => ?_]
      · rw [sides_own hj]; simp
      · rw [sides_own hi]; simp [Ne.symm hne]
    have d2 : ∀ g, g < readers.length → (if j ∈ (sidesF texts.length (readers.map (grpF of texts))).getD (texts.length + g) [] then (1 : Int) else 0) * u (texts.length + g) = if (match readers[g]? with | some r => decide (r ∈ of t) | none => false) = true then u (texts.length + g) else 0 := fun g hg => by
      rw [sides_grp, List.getD_eq_getElem?_getD, List.getElem?_map, List.getElem?_eq_getElem hg]
      simp only [Option.map_some, Option.getD_some]
      have : j ∈ grpF of texts readers[g] ↔ readers[g] ∈ of t := by
        rw [grp_mem]
        constructor
        · rintro ⟨t', h1, h2⟩; rw [hjt] at h1; cases h1; exact h2
        · intro h; exact ⟨t, hjt, h⟩
      by_cases z : readers[g] ∈ of t
      · rw [if_pos (this.mpr z)]; simp [z]
      · rw [if_neg fun h => z (this.mp h)]; simp [z]
    rw [d1, sm_congr _ d2] at D
    have Dq : (d : Rat) ≤ ((u j : Int) : Rat) + sq readers.length fun g => ((if (match readers[g]? with | some r => decide (r ∈ of t) | none => false) = true then u (texts.length + g) else 0 : Int) : Rat) := by
      rw [← sq_cast]
      have := Rat.intCast_le_intCast.mpr D
      have e : ((u j + sm readers.length (fun g => if (match readers[g]? with | some r => decide (r ∈ of t) | none => false) = true then u (texts.length + g) else 0) : Int) : Rat) = ((u j : Int) : Rat) + ((sm readers.length (fun g => if (match readers[g]? with | some r => decide (r ∈ of t) | none => false) = true then u (texts.length + g) else 0) : Int) : Rat) := by grind
      rw [← e]; exact this
    -- the sum over what may be read of t
    have s1 : rsum (of t) (vF texts.length readers d u) = rsum readers fun r => if decide (r ∈ of t) = true then vF texts.length readers d u r else 0 := by
      rw [← rsum_filter]
      refine rsum_sub (I.ofnd t ht) (I.rnd.filter _) (fun a ha => of_decide_eq_true (List.mem_filter.mp ha).2) fun a ha hn => ?_
      unfold vF
      rw [if_neg]
      intro hr
      exact hn (List.mem_filter.mpr ⟨hr, decide_eq_true ha⟩)
    have s2 : rsum (of t) (vF texts.length readers d u) * (d : Rat) = sq readers.length fun g => ((if (match readers[g]? with | some r => decide (r ∈ of t) | none => false) = true then u (texts.length + g) else 0 : Int) : Rat) := by
      rw [s1, rsum_sq t, Rat.mul_comm, ← sq_mul]
      refine sq_congr _ fun g hg => ?_
      have hgr : readers[g]? = some readers[g] := List.getElem?_eq_getElem hg
      rw [getD_el _ _ hg, hgr]
      by_cases z : readers[g] ∈ of t
      · simp only [z, decide_true, if_true]
        rw [vAt g _ hgr]; grind
      · simp [z]
    have u1 : uF texts d u t * (d : Rat) = ((u j : Int) : Rat) := by rw [uAt j t hjt]; grind
    rw [← s2, ← u1] at Dq
    have : (d : Rat) * 1 ≤ (d : Rat) * (uF texts d u t + rsum (of t) (vF texts.length readers d u)) := by grind
    exact Rat.le_of_mul_le_mul_left this hd
  · -- the cost
    have C := E.cost
    rw [hlen, sm_append] at C
    have c1 : rsum texts (fun t => (wt t : Rat) / (whole : Rat) * uF texts d u t) * ((d * unitI whole lev : Int) : Rat) = ((sm texts.length (fun k => (endsF (boundsF texts wt whole lev) (levI whole lev) readers.length).getD k 0 * u k) : Int) : Rat) := by
      rw [sq_cast]
      cases ht0 : texts with
      | nil => simp [rsum, sq]
      | cons t0 tl =>
        rw [← ht0, rsum_sq t0, Rat.mul_comm, ← sq_mul]
        refine sq_congr _ fun j hj => ?_
        have hjt : texts[j]? = some texts[j] := List.getElem?_eq_getElem hj
        rw [getD_el _ _ hj, uAt j _ hjt, ends_own (by rw [hbl]; exact hj), bAt j _ hjt, eDU]
        have e : ((wt texts[j] * (unitI whole lev / whole) * u j : Int) : Rat) = (wt texts[j] : Rat) * ((unitI whole lev / whole : Int) : Rat) * (u j : Rat) := by grind
        rw [e]
        grind
    have c2 : lev * rsum readable (vF texts.length readers d u) * ((d * unitI whole lev : Int) : Rat) = ((sm readers.length (fun g => (endsF (boundsF texts wt whole lev) (levI whole lev) readers.length).getD (texts.length + g) 0 * u (texts.length + g)) : Int) : Rat) := by
      have e1 : rsum readable (vF texts.length readers d u) = rsum readers (vF texts.length readers d u) := rsum_sub I.and_ I.rnd I.rsub fun a _ hn => by unfold vF; rw [if_neg hn]
      rw [e1, sq_cast]
      cases hr0 : readers with
      | nil => simp [rsum, sq]
      | cons r0 rl =>
        rw [← hr0, rsum_sq r0, Rat.mul_comm, ← Rat.mul_assoc, ← sq_mul]
        refine sq_congr _ fun g hg => ?_
        have hgr : readers[g]? = some readers[g] := List.getElem?_eq_getElem hg
        have eb : (endsF (boundsF texts wt whole lev) (levI whole lev) readers.length).getD (texts.length + g) 0 = levI whole lev := by
          rw [← hbl]; exact ends_grp hg
        rw [getD_el _ _ hg, vAt g _ hgr, eb, eDU]
        unfold levI
        have e : ((lev.num * (unitI whole lev / (lev.den : Int)) * u (texts.length + g) : Int) : Rat) = (lev.num : Rat) * ((unitI whole lev / (lev.den : Int) : Int) : Rat) * (u (texts.length + g) : Rat) := by grind
        rw [e]
        grind
    have cq : (W : Rat) = ((sm texts.length (fun k => (endsF (boundsF texts wt whole lev) (levI whole lev) readers.length).getD k 0 * u k) : Int) : Rat) + ((sm readers.length (fun g => (endsF (boundsF texts wt whole lev) (levI whole lev) readers.length).getD (texts.length + g) 0 * u (texts.length + g)) : Int) : Rat) := by
      rw [C]; grind
    rw [cq, ← c1, ← c2]
    grind
  · obtain ⟨j, hj, e⟩ := List.mem_iff_getElem.mp ht
    rw [fAt j t (by rw [List.getElem?_eq_getElem hj, e])]
    exact div_nn (cast_nn (E.f0 j hj)) hdU
  · obtain ⟨j, hj, e⟩ := List.mem_iff_getElem.mp ht
    have hjt : texts[j]? = some t := by rw [List.getElem?_eq_getElem hj, e]
    rw [fAt j t hjt]
    have P := E.prim j (by rw [hlen]; omega)
    rw [sm_one (k := j) _ hj fun i hi hne => by rw [sides_own hj]; simp [hne]] at P
    rw [sides_own hj, ends_own (by rw [hbl]; exact hj), bAt j t hjt] at P
    simp only [List.mem_singleton, if_true, Int.mul_one] at P
    have Pq := Rat.intCast_le_intCast.mpr P
    have e1 : ((d * (wt t * (unitI whole lev / whole)) : Int) : Rat) = (d : Rat) * ((wt t : Rat) * ((unitI whole lev / whole : Int) : Rat)) := by grind
    rw [e1] at Pq
    have := div_le hdU Pq
    refine Rat.le_trans this ?_
    rw [eDU]
    have : (d : Rat) * ((wt t : Rat) * ((unitI whole lev / whole : Int) : Rat)) / ((d : Rat) * (unitI whole lev : Rat)) = (wt t : Rat) / (whole : Rat) := by
      have hdn : (d : Rat) ≠ 0 := by grind
      have hun : (unitI whole lev : Rat) ≠ 0 := by grind
      have hwn : (whole : Rat) ≠ 0 := by grind
      grind
    rw [this]
    exact Rat.le_refl
  · have S := E.sum
    rw [← S, sq_cast]
    cases ht0 : texts with
    | nil => show (0 : Rat) = (0 : Rat) / _; grind
    | cons t0 tl =>
      rw [← ht0, rsum_sq t0]
      have : sq texts.length (fun j => ((f j : Int) : Rat)) / ((d * unitI whole lev : Int) : Rat) = (1 / ((d * unitI whole lev : Int) : Rat)) * sq texts.length (fun j => ((f j : Int) : Rat)) := by grind
      rw [this, ← sq_mul]
      refine sq_congr _ fun j hj => ?_
      have hjt : texts[j]? = some texts[j] := List.getElem?_eq_getElem hj
      rw [getD_el _ _ hj, fAt j _ hjt]; grind
end
end MK
set_option maxHeartbeats 4000000
/-! The text by places, the facts of the head by names. Printed by gen/text.py. -/
namespace MT
open PySem PySem.Spec PyProof.Rows L2
def top (i : Nat) : Stmt := PySem.Challenge.pw_marktruly_k51_whole_every_marking_witnes.main.body.getD i (.Pass ⟨0, 0, 0, 0⟩)
abbrev s_changes_init : Stmt := inClass (top 8) 0
def df_changes_init : He.DefD := ⟨("Changes", some "__init__"), "__init__", "Changes.__init__", defArgs s_changes_init, defBody s_changes_init, defScope s_changes_init, [], []⟩
abbrev s_changes_texts : Stmt := inClass (top 8) 2
def df_changes_texts : He.DefD := ⟨("Changes", some "texts"), "texts", "Changes.texts", defArgs s_changes_texts, defBody s_changes_texts, defScope s_changes_texts, [], []⟩
abbrev s_changes_of : Stmt := inClass (top 8) 3
def df_changes_of : He.DefD := ⟨("Changes", some "of"), "of", "Changes.of", defArgs s_changes_of, defBody s_changes_of, defScope s_changes_of, [], []⟩
abbrev s_changes_readable : Stmt := inClass (top 8) 4
def df_changes_readable : He.DefD := ⟨("Changes", some "readable"), "readable", "Changes.readable", defArgs s_changes_readable, defBody s_changes_readable, defScope s_changes_readable, [], []⟩
abbrev s_known : Stmt := top 9
def df_known : He.DefD := ⟨("known", none), "known", "known", defArgs s_known, defBody s_known, defScope s_known, [], []⟩
abbrev s_greatest_divisor : Stmt := top 11
def df_greatest_divisor : He.DefD := ⟨("greatest_divisor", none), "greatest_divisor", "greatest_divisor", defArgs s_greatest_divisor, defBody s_greatest_divisor, defScope s_greatest_divisor, [], []⟩
abbrev s_least_multiple : Stmt := top 12
def df_least_multiple : He.DefD := ⟨("least_multiple", none), "least_multiple", "least_multiple", defArgs s_least_multiple, defBody s_least_multiple, defScope s_least_multiple, [], []⟩
abbrev s_share_init : Stmt := inClass (top 14) 0
def df_share_init : He.DefD := ⟨("Share", some "__init__"), "__init__", "Share.__init__", defArgs s_share_init, defBody s_share_init, defScope s_share_init, [], []⟩
abbrev s_share_add : Stmt := inClass (top 14) 1
def df_share_add : He.DefD := ⟨("Share", some "__add__"), "__add__", "Share.__add__", defArgs s_share_add, defBody s_share_add, defScope s_share_add, [], []⟩
abbrev s_share_sub : Stmt := inClass (top 14) 2
def df_share_sub : He.DefD := ⟨("Share", some "__sub__"), "__sub__", "Share.__sub__", defArgs s_share_sub, defBody s_share_sub, defScope s_share_sub, [], []⟩
abbrev s_share_is_below : Stmt := inClass (top 14) 6
def df_share_is_below : He.DefD := ⟨("Share", some "is_below"), "is_below", "Share.is_below", defArgs s_share_is_below, defBody s_share_is_below, defScope s_share_is_below, [], []⟩
abbrev s_lesser_of : Stmt := top 15
def df_lesser_of : He.DefD := ⟨("lesser_of", none), "lesser_of", "lesser_of", defArgs s_lesser_of, defBody s_lesser_of, defScope s_lesser_of, [], []⟩
abbrev s_at_most_one : Stmt := top 16
def df_at_most_one : He.DefD := ⟨("at_most_one", none), "at_most_one", "at_most_one", defArgs s_at_most_one, defBody s_at_most_one, defScope s_at_most_one, [], []⟩
abbrev s_sum_of : Stmt := top 17
def df_sum_of : He.DefD := ⟨("sum_of", none), "sum_of", "sum_of", defArgs s_sum_of, defBody s_sum_of, defScope s_sum_of, [], []⟩
abbrev s_whole_parts : Stmt := top 18
def df_whole_parts : He.DefD := ⟨("whole_parts", none), "whole_parts", "whole_parts", defArgs s_whole_parts, defBody s_whole_parts, defScope s_whole_parts, [], []⟩
abbrev s_packing_init : Stmt := inClass (top 20) 0
def df_packing_init : He.DefD := ⟨("Packing", some "__init__"), "__init__", "Packing.__init__", defArgs s_packing_init, defBody s_packing_init, defScope s_packing_init, [], []⟩
abbrev s_packing_table : Stmt := inClass (top 20) 1
def df_packing_table : He.DefD := ⟨("Packing", some "table"), "table", "Packing.table", defArgs s_packing_table, defBody s_packing_table, defScope s_packing_table, [], []⟩
abbrev s_solver_init : Stmt := inClass (top 21) 0
def df_solver_init : He.DefD := ⟨("Solver", some "__init__"), "__init__", "Solver.__init__", defArgs s_solver_init, defBody s_solver_init, defScope s_solver_init, [], []⟩
abbrev s_solver_rising : Stmt := inClass (top 21) 1
def df_solver_rising : He.DefD := ⟨("Solver", some "rising"), "rising", "Solver.rising", defArgs s_solver_rising, defBody s_solver_rising, defScope s_solver_rising, [], []⟩
abbrev s_solver_bounding : Stmt := inClass (top 21) 2
def df_solver_bounding : He.DefD := ⟨("Solver", some "bounding"), "bounding", "Solver.bounding", defArgs s_solver_bounding, defBody s_solver_bounding, defScope s_solver_bounding, [], []⟩
abbrev s_solver_exchange : Stmt := inClass (top 21) 3
def df_solver_exchange : He.DefD := ⟨("Solver", some "exchange"), "exchange", "Solver.exchange", defArgs s_solver_exchange, defBody s_solver_exchange, defScope s_solver_exchange, [], []⟩
abbrev s_solver_told : Stmt := inClass (top 21) 4
def df_solver_told : He.DefD := ⟨("Solver", some "told"), "told", "Solver.told", defArgs s_solver_told, defBody s_solver_told, defScope s_solver_told, [], []⟩
abbrev s_solver_price : Stmt := inClass (top 21) 5
def df_solver_price : He.DefD := ⟨("Solver", some "price"), "price", "Solver.price", defArgs s_solver_price, defBody s_solver_price, defScope s_solver_price, [], []⟩
abbrev s_solved : Stmt := top 22
def df_solved : He.DefD := ⟨("_solved", none), "_solved", "_solved", defArgs s_solved, defBody s_solved, defScope s_solved, [], []⟩
abbrev s_worth : Stmt := top 23
def df_worth : He.DefD := ⟨("worth", none), "worth", "worth", defArgs s_worth, defBody s_worth, defScope s_worth, [], []⟩
abbrev s_best_row : Stmt := top 24
def df_best_row : He.DefD := ⟨("best_row", none), "best_row", "best_row", defArgs s_best_row, defBody s_best_row, defScope s_best_row, [], []⟩
abbrev s_prices : Stmt := top 25
def df_prices : He.DefD := ⟨("prices", none), "prices", "prices", defArgs s_prices, defBody s_prices, defScope s_prices, [], []⟩
abbrev s_is_integer : Stmt := top 27
def df_is_integer : He.DefD := ⟨("_is_integer", none), "_is_integer", "_is_integer", defArgs s_is_integer, defBody s_is_integer, defScope s_is_integer, [], []⟩
abbrev s_table_init : Stmt := inClass (top 29) 0
def df_table_init : He.DefD := ⟨("Table", some "__init__"), "__init__", "Table.__init__", defArgs s_table_init, defBody s_table_init, defScope s_table_init, [], []⟩
abbrev s_table_texts : Stmt := inClass (top 29) 1
def df_table_texts : He.DefD := ⟨("Table", some "texts"), "texts", "Table.texts", defArgs s_table_texts, defBody s_table_texts, defScope s_table_texts, [], []⟩
abbrev s_table_weight_of : Stmt := inClass (top 29) 2
def df_table_weight_of : He.DefD := ⟨("Table", some "weight_of"), "weight_of", "Table.weight_of", defArgs s_table_weight_of, defBody s_table_weight_of, defScope s_table_weight_of, [], []⟩
abbrev s_table_share_of : Stmt := inClass (top 29) 3
def df_table_share_of : He.DefD := ⟨("Table", some "share_of"), "share_of", "Table.share_of", defArgs s_table_share_of, defBody s_table_share_of, defScope s_table_share_of, [], []⟩
abbrev s_marking_init : Stmt := inClass (top 32) 0
def df_marking_init : He.DefD := ⟨("Marking", some "__init__"), "__init__", "Marking.__init__", defArgs s_marking_init, defBody s_marking_init, defScope s_marking_init, [], []⟩
abbrev s_marking_texts : Stmt := inClass (top 32) 5
def df_marking_texts : He.DefD := ⟨("Marking", some "texts"), "texts", "Marking.texts", defArgs s_marking_texts, defBody s_marking_texts, defScope s_marking_texts, [], []⟩
abbrev s_accused_by : Stmt := top 33
def df_accused_by : He.DefD := ⟨("accused_by", none), "accused_by", "accused_by", defArgs s_accused_by, defBody s_accused_by, defScope s_accused_by, [], []⟩
abbrev s_written_table : Stmt := top 34
def df_written_table : He.DefD := ⟨("written_table", none), "written_table", "written_table", defArgs s_written_table, defBody s_written_table, defScope s_written_table, [], []⟩
abbrev s_marking_of_row : Stmt := top 35
def df_marking_of_row : He.DefD := ⟨("marking_of_row", none), "marking_of_row", "marking_of_row", defArgs s_marking_of_row, defBody s_marking_of_row, defScope s_marking_of_row, [], []⟩
abbrev s_best_marking : Stmt := top 36
def df_best_marking : He.DefD := ⟨("best_marking", none), "best_marking", "best_marking", defArgs s_best_marking, defBody s_best_marking, defScope s_best_marking, [], []⟩
abbrev s_accused_weights : Stmt := top 38
def df_accused_weights : He.DefD := ⟨("_accused_weights", none), "_accused_weights", "_accused_weights", defArgs s_accused_weights, defBody s_accused_weights, defScope s_accused_weights, [], []⟩
abbrev s_accused_most : Stmt := top 39
def df_accused_most : He.DefD := ⟨("accused_most", none), "accused_most", "accused_most", defArgs s_accused_most, defBody s_accused_most, defScope s_accused_most, [], []⟩
abbrev s_check_written : Stmt := top 40
def df_check_written : He.DefD := ⟨("_check_written", none), "_check_written", "_check_written", defArgs s_check_written, defBody s_check_written, defScope s_check_written, [], []⟩
abbrev s_found_share : Stmt := top 41
def df_found_share : He.DefD := ⟨("found_share", none), "found_share", "found_share", defArgs s_found_share, defBody s_found_share, defScope s_found_share, [], []⟩
abbrev s_least_found : Stmt := top 42
def df_least_found : He.DefD := ⟨("_least_found", none), "_least_found", "_least_found", defArgs s_least_found, defBody s_least_found, defScope s_least_found, [], []⟩
abbrev s_blind_share : Stmt := top 43
def df_blind_share : He.DefD := ⟨("blind_share", none), "blind_share", "blind_share", defArgs s_blind_share, defBody s_blind_share, defScope s_blind_share, [], []⟩
abbrev s_l_stream : Stmt := top 45
def df_l_stream : He.DefD := ⟨("_law_stream", none), "_law_stream", "_law_stream", defArgs s_l_stream, defBody s_l_stream, defScope s_l_stream, [], []⟩
abbrev s_l_draw : Stmt := top 46
def df_l_draw : He.DefD := ⟨("_law_draw", none), "_law_draw", "_law_draw", defArgs s_l_draw, defBody s_l_draw, defScope s_l_draw, [], []⟩
abbrev s_l_large : Stmt := top 47
def df_l_large : He.DefD := ⟨("_law_large", none), "_law_large", "_law_large", defArgs s_l_large, defBody s_l_large, defScope s_l_large, [], []⟩
abbrev s_l_lowest : Stmt := top 48
def df_l_lowest : He.DefD := ⟨("_law_lowest", none), "_law_lowest", "_law_lowest", defArgs s_l_lowest, defBody s_l_lowest, defScope s_l_lowest, [], []⟩
abbrev s_l_is_whole : Stmt := top 49
def df_l_is_whole : He.DefD := ⟨("_law_is_whole", none), "_law_is_whole", "_law_is_whole", defArgs s_l_is_whole, defBody s_l_is_whole, defScope s_l_is_whole, [], []⟩
abbrev s_l_is_share : Stmt := top 50
def df_l_is_share : He.DefD := ⟨("_law_is_share", none), "_law_is_share", "_law_is_share", defArgs s_l_is_share, defBody s_l_is_share, defScope s_l_is_share, [], []⟩
abbrev s_l_add : Stmt := top 51
def df_l_add : He.DefD := ⟨("_law_add", none), "_law_add", "_law_add", defArgs s_l_add, defBody s_l_add, defScope s_l_add, [], []⟩
abbrev s_l_pair_of : Stmt := top 52
def df_l_pair_of : He.DefD := ⟨("_law_pair_of", none), "_law_pair_of", "_law_pair_of", defArgs s_l_pair_of, defBody s_l_pair_of, defScope s_l_pair_of, [], []⟩
abbrev s_l_text : Stmt := top 53
def df_l_text : He.DefD := ⟨("_law_text", none), "_law_text", "_law_text", defArgs s_l_text, defBody s_l_text, defScope s_l_text, [], []⟩
abbrev s_l_pool : Stmt := top 54
def df_l_pool : He.DefD := ⟨("_law_pool", none), "_law_pool", "_law_pool", defArgs s_l_pool, defBody s_l_pool, defScope s_l_pool, [], []⟩
abbrev s_l_pairs : Stmt := top 55
def df_l_pairs : He.DefD := ⟨("_law_pairs", none), "_law_pairs", "_law_pairs", defArgs s_l_pairs, defBody s_l_pairs, defScope s_l_pairs, [], []⟩
abbrev s_l_paper_cost : Stmt := top 56
def df_l_paper_cost : He.DefD := ⟨("_law_paper_cost", none), "_law_paper_cost", "_law_paper_cost", defArgs s_l_paper_cost, defBody s_l_paper_cost, defScope s_l_paper_cost, [], []⟩
abbrev s_l_part : Stmt := top 57
def df_l_part : He.DefD := ⟨("_law_part", none), "_law_part", "_law_part", defArgs s_l_part, defBody s_l_part, defScope s_l_part, [], []⟩
abbrev s_l_case : Stmt := top 58
def df_l_case : He.DefD := ⟨("_law_case", none), "_law_case", "_law_case", defArgs s_l_case, defBody s_l_case, defScope s_l_case, [], []⟩
abbrev s_l_entries : Stmt := top 59
def df_l_entries : He.DefD := ⟨("_law_entries", none), "_law_entries", "_law_entries", defArgs s_l_entries, defBody s_l_entries, defScope s_l_entries, [], []⟩
abbrev s_l_blind : Stmt := top 60
def df_l_blind : He.DefD := ⟨("_law_blind", none), "_law_blind", "_law_blind", defArgs s_l_blind, defBody s_l_blind, defScope s_l_blind, [], []⟩
abbrev s_l_found : Stmt := top 61
def df_l_found : He.DefD := ⟨("_law_found", none), "_law_found", "_law_found", defArgs s_l_found, defBody s_l_found, defScope s_l_found, [], []⟩
abbrev s_l_most : Stmt := top 62
def df_l_most : He.DefD := ⟨("_law_most", none), "_law_most", "_law_most", defArgs s_l_most, defBody s_l_most, defScope s_l_most, [], []⟩
abbrev s_l_weights : Stmt := top 63
def df_l_weights : He.DefD := ⟨("_law_weights", none), "_law_weights", "_law_weights", defArgs s_l_weights, defBody s_l_weights, defScope s_l_weights, [], []⟩
abbrev s_l_worth_due : Stmt := top 64
def df_l_worth_due : He.DefD := ⟨("_law_worth_due", none), "_law_worth_due", "_law_worth_due", defArgs s_l_worth_due, defBody s_l_worth_due, defScope s_l_worth_due, [], []⟩
abbrev s_l_keys_of : Stmt := top 65
def df_l_keys_of : He.DefD := ⟨("_law_keys_of", none), "_law_keys_of", "_law_keys_of", defArgs s_l_keys_of, defBody s_l_keys_of, defScope s_l_keys_of, [], []⟩
abbrev s_l_best_fits : Stmt := top 66
def df_l_best_fits : He.DefD := ⟨("_law_best_fits", none), "_law_best_fits", "_law_best_fits", defArgs s_l_best_fits, defBody s_l_best_fits, defScope s_l_best_fits, [], []⟩
abbrev s_l_whole : Stmt := top 67
def df_l_whole : He.DefD := ⟨("_law_whole", none), "_law_whole", "_law_whole", defArgs s_l_whole, defBody s_l_whole, defScope s_l_whole, [], []⟩
abbrev s_law : Stmt := top 68
def df_law : He.DefD := ⟨("law", none), "law", "law", defArgs s_law, defBody s_law, defScope s_law, [], []⟩
def fn0 : List He.DefD := [df_changes_init, df_changes_texts, df_changes_of, df_changes_readable, df_known, df_greatest_divisor, df_least_multiple, df_share_init, df_share_add, df_share_sub, df_share_is_below, df_lesser_of]
def fn1 : List He.DefD := [df_at_most_one, df_sum_of, df_whole_parts, df_packing_init, df_packing_table, df_solver_init, df_solver_rising, df_solver_bounding, df_solver_exchange, df_solver_told, df_solver_price, df_solved]
def fn2 : List He.DefD := [df_worth, df_best_row, df_prices, df_is_integer, df_table_init, df_table_texts, df_table_weight_of, df_table_share_of, df_marking_init, df_marking_texts, df_accused_by, df_written_table]
def fn3 : List He.DefD := [df_marking_of_row, df_best_marking, df_accused_weights, df_accused_most, df_check_written, df_found_share, df_least_found, df_blind_share, df_l_stream, df_l_draw, df_l_large, df_l_lowest]
def fn4 : List He.DefD := [df_l_is_whole, df_l_is_share, df_l_add, df_l_pair_of, df_l_text, df_l_pool, df_l_pairs, df_l_paper_cost, df_l_part, df_l_case, df_l_entries, df_l_blind]
def fn5 : List He.DefD := [df_l_found, df_l_most, df_l_weights, df_l_worth_due, df_l_keys_of, df_l_best_fits, df_l_whole, df_law]
def fn : List He.DefD := fn0 ++ fn1 ++ fn2 ++ fn3 ++ fn4 ++ fn5
def fa0 : List He.Fa := [.glo "Changes", .glo "known", .glo "greatest_divisor", .glo "least_multiple", .glo "Share", .glo "lesser_of", .glo "at_most_one", .glo "sum_of", .glo "whole_parts", .glo "Packing", .glo "Solver", .glo "_solved", .glo "worth", .glo "best_row", .glo "prices", .glo "_is_integer", .glo "Table", .glo "Marking", .glo "accused_by", .glo "written_table"]
def fa1 : List He.Fa := [.glo "marking_of_row", .glo "best_marking", .glo "_accused_weights", .glo "accused_most", .glo "_check_written", .glo "found_share", .glo "_least_found", .glo "blind_share", .glo "_law_stream", .glo "_law_draw", .glo "_law_large", .glo "_law_lowest", .glo "_law_is_whole", .glo "_law_is_share", .glo "_law_add", .glo "_law_pair_of", .glo "_law_text", .glo "_law_pool", .glo "_law_pairs", .glo "_law_paper_cost"]
def fa2 : List He.Fa := [.glo "_law_part", .glo "_law_case", .glo "_law_entries", .glo "_law_blind", .glo "_law_found", .glo "_law_most", .glo "_law_weights", .glo "_law_worth_due", .glo "_law_keys_of", .glo "_law_best_fits", .glo "_law_whole", .glo "law", .free "enumerate", .free "tuple", .free "sorted", .free "set", .free "list", .free "isinstance", .free "int", .free "bool"]
def fa3 : List He.Fa := [.free "str", .free "abs", .free "len", .free "range", .free "zip", .free "sum", .free "max", .free "min", .free "all", .free "reversed", .cls "Changes", .mkr "Changes", .noat "Changes" "kept", .cls "Share", .mkr "Share", .noat "Share" "over", .noat "Share" "under", .cls "Packing", .mkr "Packing", .noat "Packing" "texts"]
def fa4 : List He.Fa := [.noat "Packing" "unit", .noat "Packing" "bounds", .noat "Packing" "level", .noat "Packing" "readable", .noat "Packing" "groups", .noat "Packing" "readers", .cls "Solver", .mkr "Solver", .noat "Solver" "rows", .noat "Solver" "divisor", .noat "Solver" "basis", .cls "Table", .mkr "Table", .noat "Table" "weights", .noat "Table" "whole", .cls "Marking", .mkr "Marking", .noat "Marking" "entries", .noat "Marking" "whole", .meth "Changes" "texts"]
def fa5 : List He.Fa := [.meth "Changes" "of", .meth "Changes" "readable", .meth "Share" "__add__", .meth "Share" "__sub__", .meth "Share" "is_below", .meth "Packing" "table", .meth "Solver" "rising", .meth "Solver" "bounding", .meth "Solver" "exchange", .meth "Solver" "told", .meth "Solver" "price", .meth "Table" "texts", .meth "Table" "weight_of", .meth "Table" "share_of", .meth "Marking" "texts"]
def fa : List He.Fa := fa0 ++ fa1 ++ fa2 ++ fa3 ++ fa4 ++ fa5
def loose0 : List Str := ["_wall", "MarkError", "InvalidNumber", "InvalidPair", "InvalidKey", "UnknownText", "Changes", "known", "greatest_divisor", "least_multiple", "Share", "lesser_of", "at_most_one", "sum_of", "whole_parts", "Packing"]
def loose1 : List Str := ["Solver", "_solved", "worth", "best_row", "prices", "_is_integer", "_text_at", "Table", "_is_below", "Marking", "accused_by", "written_table", "marking_of_row", "best_marking", "_accused_weights", "accused_most"]
def loose2 : List Str := ["_check_written", "found_share", "_least_found", "blind_share", "_law_stream", "_law_draw", "_law_large", "_law_lowest", "_law_is_whole", "_law_is_share", "_law_add", "_law_pair_of", "_law_text", "_law_pool", "_law_pairs", "_law_paper_cost"]
def loose3 : List Str := ["_law_part", "_law_case", "_law_entries", "_law_blind", "_law_found", "_law_most", "_law_weights", "_law_worth_due", "_law_keys_of", "_law_best_fits", "_law_whole"]
def loose : List Str := loose0 ++ loose1 ++ loose2 ++ loose3
/-- isinstance and == of own classes -/
def insB (K : PySem.W.Frag) (C : Addr) : Bool := decide (PySem.W.findIn K (.ref C) "__class__" = some (some (.builtin "object.__class__"))) && (decide (PySem.W.specialIn K (.builtin "object.__class__") "__get__" = some (some (.builtin "getset_descriptor.__get__"))) &&
  (decide (PySem.W.takesIn K (.builtin "object.__class__") = some true) && (decide (PySem.W.mroIn K C (.type "object") = some true) && decide (PySem.W.kitOne K (.ref C) (.ref C) = some true))))
def exB (K : PySem.W.Frag) : Bool := insB K (He.ga K "Share") && (insB K (He.ga K "Marking") && PySem.W.selfFirst K (He.ga K "Share"))
structure SaysM (fa : List He.Fa) (fn : List He.DefD) (ex : PySem.W.Frag → Bool) (K : PySem.W.Frag) : Prop where
  d : He.SaysD fa fn K
  more : ex K = true
structure Tx (K : PySem.W.Frag) (mg : Str → Option Value) : Prop where
  says : SaysM fa fn exB K
  top_ : ∃ h : Heap, K.In h ∧ h.Ns mainGlobals mg
section
variable {K : PySem.W.Frag} {mg : Str → Option Value}
theorem Tx.glo_ (T : Tx K mg) {x : Str} (c : (He.Fa.glo x).ok K = true) : mg x = some (.ref (He.ga K x)) := by
  obtain ⟨h, X, G⟩ := T.top_
  exact He.glo_ok X G c
theorem Tx.free_ (T : Tx K mg) {x : Str} (c : (He.Fa.free x).ok K = true) : mg x = none := by
  obtain ⟨h, X, G⟩ := T.top_
  exact He.free_ok X G c
abbrev CChanges (K : PySem.W.Frag) : Addr := He.ga K "Changes"
abbrev CShare (K : PySem.W.Frag) : Addr := He.ga K "Share"
abbrev CPacking (K : PySem.W.Frag) : Addr := He.ga K "Packing"
abbrev CSolver (K : PySem.W.Frag) : Addr := He.ga K "Solver"
abbrev CTable (K : PySem.W.Frag) : Addr := He.ga K "Table"
abbrev CMarking (K : PySem.W.Frag) : Addr := He.ga K "Marking"
theorem Tx.gChanges (T : Tx K mg) : mg "Changes" = some (.ref (He.ga K "Changes")) := T.glo_ (T.says.d.fact 0 (f := He.Fa.glo "Changes"))
theorem Tx.gknown (T : Tx K mg) : mg "known" = some (.ref (He.ga K "known")) := T.glo_ (T.says.d.fact 1 (f := He.Fa.glo "known"))
theorem Tx.ggreatest_divisor (T : Tx K mg) : mg "greatest_divisor" = some (.ref (He.ga K "greatest_divisor")) := T.glo_ (T.says.d.fact 2 (f := He.Fa.glo "greatest_divisor"))
theorem Tx.gleast_multiple (T : Tx K mg) : mg "least_multiple" = some (.ref (He.ga K "least_multiple")) := T.glo_ (T.says.d.fact 3 (f := He.Fa.glo "least_multiple"))
theorem Tx.gShare (T : Tx K mg) : mg "Share" = some (.ref (He.ga K "Share")) := T.glo_ (T.says.d.fact 4 (f := He.Fa.glo "Share"))
theorem Tx.glesser_of (T : Tx K mg) : mg "lesser_of" = some (.ref (He.ga K "lesser_of")) := T.glo_ (T.says.d.fact 5 (f := He.Fa.glo "lesser_of"))
theorem Tx.gat_most_one (T : Tx K mg) : mg "at_most_one" = some (.ref (He.ga K "at_most_one")) := T.glo_ (T.says.d.fact 6 (f := He.Fa.glo "at_most_one"))
theorem Tx.gsum_of (T : Tx K mg) : mg "sum_of" = some (.ref (He.ga K "sum_of")) := T.glo_ (T.says.d.fact 7 (f := He.Fa.glo "sum_of"))
theorem Tx.gwhole_parts (T : Tx K mg) : mg "whole_parts" = some (.ref (He.ga K "whole_parts")) := T.glo_ (T.says.d.fact 8 (f := He.Fa.glo "whole_parts"))
theorem Tx.gPacking (T : Tx K mg) : mg "Packing" = some (.ref (He.ga K "Packing")) := T.glo_ (T.says.d.fact 9 (f := He.Fa.glo "Packing"))
theorem Tx.gSolver (T : Tx K mg) : mg "Solver" = some (.ref (He.ga K "Solver")) := T.glo_ (T.says.d.fact 10 (f := He.Fa.glo "Solver"))
theorem Tx.g_solved (T : Tx K mg) : mg "_solved" = some (.ref (He.ga K "_solved")) := T.glo_ (T.says.d.fact 11 (f := He.Fa.glo "_solved"))
theorem Tx.gworth (T : Tx K mg) : mg "worth" = some (.ref (He.ga K "worth")) := T.glo_ (T.says.d.fact 12 (f := He.Fa.glo "worth"))
theorem Tx.gbest_row (T : Tx K mg) : mg "best_row" = some (.ref (He.ga K "best_row")) := T.glo_ (T.says.d.fact 13 (f := He.Fa.glo "best_row"))
theorem Tx.gprices (T : Tx K mg) : mg "prices" = some (.ref (He.ga K "prices")) := T.glo_ (T.says.d.fact 14 (f := He.Fa.glo "prices"))
theorem Tx.g_is_integer (T : Tx K mg) : mg "_is_integer" = some (.ref (He.ga K "_is_integer")) := T.glo_ (T.says.d.fact 15 (f := He.Fa.glo "_is_integer"))
theorem Tx.gTable (T : Tx K mg) : mg "Table" = some (.ref (He.ga K "Table")) := T.glo_ (T.says.d.fact 16 (f := He.Fa.glo "Table"))
theorem Tx.gMarking (T : Tx K mg) : mg "Marking" = some (.ref (He.ga K "Marking")) := T.glo_ (T.says.d.fact 17 (f := He.Fa.glo "Marking"))
theorem Tx.gaccused_by (T : Tx K mg) : mg "accused_by" = some (.ref (He.ga K "accused_by")) := T.glo_ (T.says.d.fact 18 (f := He.Fa.glo "accused_by"))
theorem Tx.gwritten_table (T : Tx K mg) : mg "written_table" = some (.ref (He.ga K "written_table")) := T.glo_ (T.says.d.fact 19 (f := He.Fa.glo "written_table"))
theorem Tx.gmarking_of_row (T : Tx K mg) : mg "marking_of_row" = some (.ref (He.ga K "marking_of_row")) := T.glo_ (T.says.d.fact 20 (f := He.Fa.glo "marking_of_row"))
theorem Tx.gbest_marking (T : Tx K mg) : mg "best_marking" = some (.ref (He.ga K "best_marking")) := T.glo_ (T.says.d.fact 21 (f := He.Fa.glo "best_marking"))
theorem Tx.g_accused_weights (T : Tx K mg) : mg "_accused_weights" = some (.ref (He.ga K "_accused_weights")) := T.glo_ (T.says.d.fact 22 (f := He.Fa.glo "_accused_weights"))
theorem Tx.gaccused_most (T : Tx K mg) : mg "accused_most" = some (.ref (He.ga K "accused_most")) := T.glo_ (T.says.d.fact 23 (f := He.Fa.glo "accused_most"))
theorem Tx.g_check_written (T : Tx K mg) : mg "_check_written" = some (.ref (He.ga K "_check_written")) := T.glo_ (T.says.d.fact 24 (f := He.Fa.glo "_check_written"))
theorem Tx.gfound_share (T : Tx K mg) : mg "found_share" = some (.ref (He.ga K "found_share")) := T.glo_ (T.says.d.fact 25 (f := He.Fa.glo "found_share"))
theorem Tx.g_least_found (T : Tx K mg) : mg "_least_found" = some (.ref (He.ga K "_least_found")) := T.glo_ (T.says.d.fact 26 (f := He.Fa.glo "_least_found"))
theorem Tx.gblind_share (T : Tx K mg) : mg "blind_share" = some (.ref (He.ga K "blind_share")) := T.glo_ (T.says.d.fact 27 (f := He.Fa.glo "blind_share"))
theorem Tx.g_law_stream (T : Tx K mg) : mg "_law_stream" = some (.ref (He.ga K "_law_stream")) := T.glo_ (T.says.d.fact 28 (f := He.Fa.glo "_law_stream"))
theorem Tx.g_law_draw (T : Tx K mg) : mg "_law_draw" = some (.ref (He.ga K "_law_draw")) := T.glo_ (T.says.d.fact 29 (f := He.Fa.glo "_law_draw"))
theorem Tx.g_law_large (T : Tx K mg) : mg "_law_large" = some (.ref (He.ga K "_law_large")) := T.glo_ (T.says.d.fact 30 (f := He.Fa.glo "_law_large"))
theorem Tx.g_law_lowest (T : Tx K mg) : mg "_law_lowest" = some (.ref (He.ga K "_law_lowest")) := T.glo_ (T.says.d.fact 31 (f := He.Fa.glo "_law_lowest"))
theorem Tx.g_law_is_whole (T : Tx K mg) : mg "_law_is_whole" = some (.ref (He.ga K "_law_is_whole")) := T.glo_ (T.says.d.fact 32 (f := He.Fa.glo "_law_is_whole"))
theorem Tx.g_law_is_share (T : Tx K mg) : mg "_law_is_share" = some (.ref (He.ga K "_law_is_share")) := T.glo_ (T.says.d.fact 33 (f := He.Fa.glo "_law_is_share"))
theorem Tx.g_law_add (T : Tx K mg) : mg "_law_add" = some (.ref (He.ga K "_law_add")) := T.glo_ (T.says.d.fact 34 (f := He.Fa.glo "_law_add"))
theorem Tx.g_law_pair_of (T : Tx K mg) : mg "_law_pair_of" = some (.ref (He.ga K "_law_pair_of")) := T.glo_ (T.says.d.fact 35 (f := He.Fa.glo "_law_pair_of"))
theorem Tx.g_law_text (T : Tx K mg) : mg "_law_text" = some (.ref (He.ga K "_law_text")) := T.glo_ (T.says.d.fact 36 (f := He.Fa.glo "_law_text"))
theorem Tx.g_law_pool (T : Tx K mg) : mg "_law_pool" = some (.ref (He.ga K "_law_pool")) := T.glo_ (T.says.d.fact 37 (f := He.Fa.glo "_law_pool"))
theorem Tx.g_law_pairs (T : Tx K mg) : mg "_law_pairs" = some (.ref (He.ga K "_law_pairs")) := T.glo_ (T.says.d.fact 38 (f := He.Fa.glo "_law_pairs"))
theorem Tx.g_law_paper_cost (T : Tx K mg) : mg "_law_paper_cost" = some (.ref (He.ga K "_law_paper_cost")) := T.glo_ (T.says.d.fact 39 (f := He.Fa.glo "_law_paper_cost"))
theorem Tx.g_law_part (T : Tx K mg) : mg "_law_part" = some (.ref (He.ga K "_law_part")) := T.glo_ (T.says.d.fact 40 (f := He.Fa.glo "_law_part"))
theorem Tx.g_law_case (T : Tx K mg) : mg "_law_case" = some (.ref (He.ga K "_law_case")) := T.glo_ (T.says.d.fact 41 (f := He.Fa.glo "_law_case"))
theorem Tx.g_law_entries (T : Tx K mg) : mg "_law_entries" = some (.ref (He.ga K "_law_entries")) := T.glo_ (T.says.d.fact 42 (f := He.Fa.glo "_law_entries"))
theorem Tx.g_law_blind (T : Tx K mg) : mg "_law_blind" = some (.ref (He.ga K "_law_blind")) := T.glo_ (T.says.d.fact 43 (f := He.Fa.glo "_law_blind"))
theorem Tx.g_law_found (T : Tx K mg) : mg "_law_found" = some (.ref (He.ga K "_law_found")) := T.glo_ (T.says.d.fact 44 (f := He.Fa.glo "_law_found"))
theorem Tx.g_law_most (T : Tx K mg) : mg "_law_most" = some (.ref (He.ga K "_law_most")) := T.glo_ (T.says.d.fact 45 (f := He.Fa.glo "_law_most"))
theorem Tx.g_law_weights (T : Tx K mg) : mg "_law_weights" = some (.ref (He.ga K "_law_weights")) := T.glo_ (T.says.d.fact 46 (f := He.Fa.glo "_law_weights"))
theorem Tx.g_law_worth_due (T : Tx K mg) : mg "_law_worth_due" = some (.ref (He.ga K "_law_worth_due")) := T.glo_ (T.says.d.fact 47 (f := He.Fa.glo "_law_worth_due"))
theorem Tx.g_law_keys_of (T : Tx K mg) : mg "_law_keys_of" = some (.ref (He.ga K "_law_keys_of")) := T.glo_ (T.says.d.fact 48 (f := He.Fa.glo "_law_keys_of"))
theorem Tx.g_law_best_fits (T : Tx K mg) : mg "_law_best_fits" = some (.ref (He.ga K "_law_best_fits")) := T.glo_ (T.says.d.fact 49 (f := He.Fa.glo "_law_best_fits"))
theorem Tx.g_law_whole (T : Tx K mg) : mg "_law_whole" = some (.ref (He.ga K "_law_whole")) := T.glo_ (T.says.d.fact 50 (f := He.Fa.glo "_law_whole"))
theorem Tx.glaw (T : Tx K mg) : mg "law" = some (.ref (He.ga K "law")) := T.glo_ (T.says.d.fact 51 (f := He.Fa.glo "law"))
theorem Tx.f_enumerate (T : Tx K mg) : mg "enumerate" = none := T.free_ (T.says.d.fact 52 (f := He.Fa.free "enumerate"))
theorem Tx.f_tuple (T : Tx K mg) : mg "tuple" = none := T.free_ (T.says.d.fact 53 (f := He.Fa.free "tuple"))
theorem Tx.f_sorted (T : Tx K mg) : mg "sorted" = none := T.free_ (T.says.d.fact 54 (f := He.Fa.free "sorted"))
theorem Tx.f_set (T : Tx K mg) : mg "set" = none := T.free_ (T.says.d.fact 55 (f := He.Fa.free "set"))
theorem Tx.f_list (T : Tx K mg) : mg "list" = none := T.free_ (T.says.d.fact 56 (f := He.Fa.free "list"))
theorem Tx.f_isinstance (T : Tx K mg) : mg "isinstance" = none := T.free_ (T.says.d.fact 57 (f := He.Fa.free "isinstance"))
theorem Tx.f_int (T : Tx K mg) : mg "int" = none := T.free_ (T.says.d.fact 58 (f := He.Fa.free "int"))
theorem Tx.f_bool (T : Tx K mg) : mg "bool" = none := T.free_ (T.says.d.fact 59 (f := He.Fa.free "bool"))
theorem Tx.f_str (T : Tx K mg) : mg "str" = none := T.free_ (T.says.d.fact 60 (f := He.Fa.free "str"))
theorem Tx.f_abs (T : Tx K mg) : mg "abs" = none := T.free_ (T.says.d.fact 61 (f := He.Fa.free "abs"))
theorem Tx.f_len (T : Tx K mg) : mg "len" = none := T.free_ (T.says.d.fact 62 (f := He.Fa.free "len"))
theorem Tx.f_range (T : Tx K mg) : mg "range" = none := T.free_ (T.says.d.fact 63 (f := He.Fa.free "range"))
theorem Tx.f_zip (T : Tx K mg) : mg "zip" = none := T.free_ (T.says.d.fact 64 (f := He.Fa.free "zip"))
theorem Tx.f_sum (T : Tx K mg) : mg "sum" = none := T.free_ (T.says.d.fact 65 (f := He.Fa.free "sum"))
theorem Tx.f_max (T : Tx K mg) : mg "max" = none := T.free_ (T.says.d.fact 66 (f := He.Fa.free "max"))
theorem Tx.f_min (T : Tx K mg) : mg "min" = none := T.free_ (T.says.d.fact 67 (f := He.Fa.free "min"))
theorem Tx.f_all (T : Tx K mg) : mg "all" = none := T.free_ (T.says.d.fact 68 (f := He.Fa.free "all"))
theorem Tx.f_reversed (T : Tx K mg) : mg "reversed" = none := T.free_ (T.says.d.fact 69 (f := He.Fa.free "reversed"))
theorem Tx.cChanges (T : Tx K mg) : Cls K (CChanges K) := He.cls_ok (T.says.d.fact 70 (f := He.Fa.cls "Changes"))
theorem Tx.kChanges (T : Tx K mg) : Mk K (CChanges K) (He.ma K (CChanges K) "__init__") := He.mkr_ok (T.says.d.fact 71 (f := He.Fa.mkr "Changes"))
theorem Tx.nChanges_kept (T : Tx K mg) : NoAttr K (CChanges K) "kept" := He.noat_ok (T.says.d.fact 72 (f := He.Fa.noat "Changes" "kept"))
theorem Tx.cShare (T : Tx K mg) : Cls K (CShare K) := He.cls_ok (T.says.d.fact 73 (f := He.Fa.cls "Share"))
theorem Tx.kShare (T : Tx K mg) : Mk K (CShare K) (He.ma K (CShare K) "__init__") := He.mkr_ok (T.says.d.fact 74 (f := He.Fa.mkr "Share"))
theorem Tx.nShare_over (T : Tx K mg) : NoAttr K (CShare K) "over" := He.noat_ok (T.says.d.fact 75 (f := He.Fa.noat "Share" "over"))
theorem Tx.nShare_under (T : Tx K mg) : NoAttr K (CShare K) "under" := He.noat_ok (T.says.d.fact 76 (f := He.Fa.noat "Share" "under"))
theorem Tx.cPacking (T : Tx K mg) : Cls K (CPacking K) := He.cls_ok (T.says.d.fact 77 (f := He.Fa.cls "Packing"))
theorem Tx.kPacking (T : Tx K mg) : Mk K (CPacking K) (He.ma K (CPacking K) "__init__") := He.mkr_ok (T.says.d.fact 78 (f := He.Fa.mkr "Packing"))
theorem Tx.nPacking_texts (T : Tx K mg) : NoAttr K (CPacking K) "texts" := He.noat_ok (T.says.d.fact 79 (f := He.Fa.noat "Packing" "texts"))
theorem Tx.nPacking_unit (T : Tx K mg) : NoAttr K (CPacking K) "unit" := He.noat_ok (T.says.d.fact 80 (f := He.Fa.noat "Packing" "unit"))
theorem Tx.nPacking_bounds (T : Tx K mg) : NoAttr K (CPacking K) "bounds" := He.noat_ok (T.says.d.fact 81 (f := He.Fa.noat "Packing" "bounds"))
theorem Tx.nPacking_level (T : Tx K mg) : NoAttr K (CPacking K) "level" := He.noat_ok (T.says.d.fact 82 (f := He.Fa.noat "Packing" "level"))
theorem Tx.nPacking_readable (T : Tx K mg) : NoAttr K (CPacking K) "readable" := He.noat_ok (T.says.d.fact 83 (f := He.Fa.noat "Packing" "readable"))
theorem Tx.nPacking_groups (T : Tx K mg) : NoAttr K (CPacking K) "groups" := He.noat_ok (T.says.d.fact 84 (f := He.Fa.noat "Packing" "groups"))
theorem Tx.nPacking_readers (T : Tx K mg) : NoAttr K (CPacking K) "readers" := He.noat_ok (T.says.d.fact 85 (f := He.Fa.noat "Packing" "readers"))
theorem Tx.cSolver (T : Tx K mg) : Cls K (CSolver K) := He.cls_ok (T.says.d.fact 86 (f := He.Fa.cls "Solver"))
theorem Tx.kSolver (T : Tx K mg) : Mk K (CSolver K) (He.ma K (CSolver K) "__init__") := He.mkr_ok (T.says.d.fact 87 (f := He.Fa.mkr "Solver"))
theorem Tx.nSolver_rows (T : Tx K mg) : NoAttr K (CSolver K) "rows" := He.noat_ok (T.says.d.fact 88 (f := He.Fa.noat "Solver" "rows"))
theorem Tx.nSolver_divisor (T : Tx K mg) : NoAttr K (CSolver K) "divisor" := He.noat_ok (T.says.d.fact 89 (f := He.Fa.noat "Solver" "divisor"))
theorem Tx.nSolver_basis (T : Tx K mg) : NoAttr K (CSolver K) "basis" := He.noat_ok (T.says.d.fact 90 (f := He.Fa.noat "Solver" "basis"))
theorem Tx.cTable (T : Tx K mg) : Cls K (CTable K) := He.cls_ok (T.says.d.fact 91 (f := He.Fa.cls "Table"))
theorem Tx.kTable (T : Tx K mg) : Mk K (CTable K) (He.ma K (CTable K) "__init__") := He.mkr_ok (T.says.d.fact 92 (f := He.Fa.mkr "Table"))
theorem Tx.nTable_weights (T : Tx K mg) : NoAttr K (CTable K) "weights" := He.noat_ok (T.says.d.fact 93 (f := He.Fa.noat "Table" "weights"))
theorem Tx.nTable_whole (T : Tx K mg) : NoAttr K (CTable K) "whole" := He.noat_ok (T.says.d.fact 94 (f := He.Fa.noat "Table" "whole"))
theorem Tx.cMarking (T : Tx K mg) : Cls K (CMarking K) := He.cls_ok (T.says.d.fact 95 (f := He.Fa.cls "Marking"))
theorem Tx.kMarking (T : Tx K mg) : Mk K (CMarking K) (He.ma K (CMarking K) "__init__") := He.mkr_ok (T.says.d.fact 96 (f := He.Fa.mkr "Marking"))
theorem Tx.nMarking_entries (T : Tx K mg) : NoAttr K (CMarking K) "entries" := He.noat_ok (T.says.d.fact 97 (f := He.Fa.noat "Marking" "entries"))
theorem Tx.nMarking_whole (T : Tx K mg) : NoAttr K (CMarking K) "whole" := He.noat_ok (T.says.d.fact 98 (f := He.Fa.noat "Marking" "whole"))
theorem Tx.mChanges_texts (T : Tx K mg) : Meth K (CChanges K) "texts" (He.ma K (CChanges K) "texts") := He.meth_ok (T.says.d.fact 99 (f := He.Fa.meth "Changes" "texts"))
theorem Tx.mChanges_of (T : Tx K mg) : Meth K (CChanges K) "of" (He.ma K (CChanges K) "of") := He.meth_ok (T.says.d.fact 100 (f := He.Fa.meth "Changes" "of"))
theorem Tx.mChanges_readable (T : Tx K mg) : Meth K (CChanges K) "readable" (He.ma K (CChanges K) "readable") := He.meth_ok (T.says.d.fact 101 (f := He.Fa.meth "Changes" "readable"))
theorem Tx.mShare___add__ (T : Tx K mg) : Meth K (CShare K) "__add__" (He.ma K (CShare K) "__add__") := He.meth_ok (T.says.d.fact 102 (f := He.Fa.meth "Share" "__add__"))
theorem Tx.mShare___sub__ (T : Tx K mg) : Meth K (CShare K) "__sub__" (He.ma K (CShare K) "__sub__") := He.meth_ok (T.says.d.fact 103 (f := He.Fa.meth "Share" "__sub__"))
theorem Tx.mShare_is_below (T : Tx K mg) : Meth K (CShare K) "is_below" (He.ma K (CShare K) "is_below") := He.meth_ok (T.says.d.fact 104 (f := He.Fa.meth "Share" "is_below"))
theorem Tx.mPacking_table (T : Tx K mg) : Meth K (CPacking K) "table" (He.ma K (CPacking K) "table") := He.meth_ok (T.says.d.fact 105 (f := He.Fa.meth "Packing" "table"))
theorem Tx.mSolver_rising (T : Tx K mg) : Meth K (CSolver K) "rising" (He.ma K (CSolver K) "rising") := He.meth_ok (T.says.d.fact 106 (f := He.Fa.meth "Solver" "rising"))
theorem Tx.mSolver_bounding (T : Tx K mg) : Meth K (CSolver K) "bounding" (He.ma K (CSolver K) "bounding") := He.meth_ok (T.says.d.fact 107 (f := He.Fa.meth "Solver" "bounding"))
theorem Tx.mSolver_exchange (T : Tx K mg) : Meth K (CSolver K) "exchange" (He.ma K (CSolver K) "exchange") := He.meth_ok (T.says.d.fact 108 (f := He.Fa.meth "Solver" "exchange"))
theorem Tx.mSolver_told (T : Tx K mg) : Meth K (CSolver K) "told" (He.ma K (CSolver K) "told") := He.meth_ok (T.says.d.fact 109 (f := He.Fa.meth "Solver" "told"))
theorem Tx.mSolver_price (T : Tx K mg) : Meth K (CSolver K) "price" (He.ma K (CSolver K) "price") := He.meth_ok (T.says.d.fact 110 (f := He.Fa.meth "Solver" "price"))
theorem Tx.mTable_texts (T : Tx K mg) : Meth K (CTable K) "texts" (He.ma K (CTable K) "texts") := He.meth_ok (T.says.d.fact 111 (f := He.Fa.meth "Table" "texts"))
theorem Tx.mTable_weight_of (T : Tx K mg) : Meth K (CTable K) "weight_of" (He.ma K (CTable K) "weight_of") := He.meth_ok (T.says.d.fact 112 (f := He.Fa.meth "Table" "weight_of"))
theorem Tx.mTable_share_of (T : Tx K mg) : Meth K (CTable K) "share_of" (He.ma K (CTable K) "share_of") := He.meth_ok (T.says.d.fact 113 (f := He.Fa.meth "Table" "share_of"))
theorem Tx.mMarking_texts (T : Tx K mg) : Meth K (CMarking K) "texts" (He.ma K (CMarking K) "texts") := He.meth_ok (T.says.d.fact 114 (f := He.Fa.meth "Marking" "texts"))
theorem Tx.d_changes_init (T : Tx K mg) : ∃ fd, FunD K "__init__" "Changes.__init__" (defArgs s_changes_init) (defBody s_changes_init) (defScope s_changes_init) [] [] (He.fAd K ("Changes", some "__init__")) fd := T.says.d.def_ 0 (d := df_changes_init)
theorem Tx.d_changes_texts (T : Tx K mg) : ∃ fd, FunD K "texts" "Changes.texts" (defArgs s_changes_texts) (defBody s_changes_texts) (defScope s_changes_texts) [] [] (He.fAd K ("Changes", some "texts")) fd := T.says.d.def_ 1 (d := df_changes_texts)
theorem Tx.d_changes_of (T : Tx K mg) : ∃ fd, FunD K "of" "Changes.of" (defArgs s_changes_of) (defBody s_changes_of) (defScope s_changes_of) [] [] (He.fAd K ("Changes", some "of")) fd := T.says.d.def_ 2 (d := df_changes_of)
theorem Tx.d_changes_readable (T : Tx K mg) : ∃ fd, FunD K "readable" "Changes.readable" (defArgs s_changes_readable) (defBody s_changes_readable) (defScope s_changes_readable) [] [] (He.fAd K ("Changes", some "readable")) fd := T.says.d.def_ 3 (d := df_changes_readable)
theorem Tx.d_known (T : Tx K mg) : ∃ fd, FunD K "known" "known" (defArgs s_known) (defBody s_known) (defScope s_known) [] [] (He.fAd K ("known", none)) fd := T.says.d.def_ 4 (d := df_known)
theorem Tx.d_greatest_divisor (T : Tx K mg) : ∃ fd, FunD K "greatest_divisor" "greatest_divisor" (defArgs s_greatest_divisor) (defBody s_greatest_divisor) (defScope s_greatest_divisor) [] [] (He.fAd K ("greatest_divisor", none)) fd := T.says.d.def_ 5 (d := df_greatest_divisor)
theorem Tx.d_least_multiple (T : Tx K mg) : ∃ fd, FunD K "least_multiple" "least_multiple" (defArgs s_least_multiple) (defBody s_least_multiple) (defScope s_least_multiple) [] [] (He.fAd K ("least_multiple", none)) fd := T.says.d.def_ 6 (d := df_least_multiple)
theorem Tx.d_share_init (T : Tx K mg) : ∃ fd, FunD K "__init__" "Share.__init__" (defArgs s_share_init) (defBody s_share_init) (defScope s_share_init) [] [] (He.fAd K ("Share", some "__init__")) fd := T.says.d.def_ 7 (d := df_share_init)
theorem Tx.d_share_add (T : Tx K mg) : ∃ fd, FunD K "__add__" "Share.__add__" (defArgs s_share_add) (defBody s_share_add) (defScope s_share_add) [] [] (He.fAd K ("Share", some "__add__")) fd := T.says.d.def_ 8 (d := df_share_add)
theorem Tx.d_share_sub (T : Tx K mg) : ∃ fd, FunD K "__sub__" "Share.__sub__" (defArgs s_share_sub) (defBody s_share_sub) (defScope s_share_sub) [] [] (He.fAd K ("Share", some "__sub__")) fd := T.says.d.def_ 9 (d := df_share_sub)
theorem Tx.d_share_is_below (T : Tx K mg) : ∃ fd, FunD K "is_below" "Share.is_below" (defArgs s_share_is_below) (defBody s_share_is_below) (defScope s_share_is_below) [] [] (He.fAd K ("Share", some "is_below")) fd := T.says.d.def_ 10 (d := df_share_is_below)
theorem Tx.d_lesser_of (T : Tx K mg) : ∃ fd, FunD K "lesser_of" "lesser_of" (defArgs s_lesser_of) (defBody s_lesser_of) (defScope s_lesser_of) [] [] (He.fAd K ("lesser_of", none)) fd := T.says.d.def_ 11 (d := df_lesser_of)
theorem Tx.d_at_most_one (T : Tx K mg) : ∃ fd, FunD K "at_most_one" "at_most_one" (defArgs s_at_most_one) (defBody s_at_most_one) (defScope s_at_most_one) [] [] (He.fAd K ("at_most_one", none)) fd := T.says.d.def_ 12 (d := df_at_most_one)
theorem Tx.d_sum_of (T : Tx K mg) : ∃ fd, FunD K "sum_of" "sum_of" (defArgs s_sum_of) (defBody s_sum_of) (defScope s_sum_of) [] [] (He.fAd K ("sum_of", none)) fd := T.says.d.def_ 13 (d := df_sum_of)
theorem Tx.d_whole_parts (T : Tx K mg) : ∃ fd, FunD K "whole_parts" "whole_parts" (defArgs s_whole_parts) (defBody s_whole_parts) (defScope s_whole_parts) [] [] (He.fAd K ("whole_parts", none)) fd := T.says.d.def_ 14 (d := df_whole_parts)
theorem Tx.d_packing_init (T : Tx K mg) : ∃ fd, FunD K "__init__" "Packing.__init__" (defArgs s_packing_init) (defBody s_packing_init) (defScope s_packing_init) [] [] (He.fAd K ("Packing", some "__init__")) fd := T.says.d.def_ 15 (d := df_packing_init)
theorem Tx.d_packing_table (T : Tx K mg) : ∃ fd, FunD K "table" "Packing.table" (defArgs s_packing_table) (defBody s_packing_table) (defScope s_packing_table) [] [] (He.fAd K ("Packing", some "table")) fd := T.says.d.def_ 16 (d := df_packing_table)
theorem Tx.d_solver_init (T : Tx K mg) : ∃ fd, FunD K "__init__" "Solver.__init__" (defArgs s_solver_init) (defBody s_solver_init) (defScope s_solver_init) [] [] (He.fAd K ("Solver", some "__init__")) fd := T.says.d.def_ 17 (d := df_solver_init)
theorem Tx.d_solver_rising (T : Tx K mg) : ∃ fd, FunD K "rising" "Solver.rising" (defArgs s_solver_rising) (defBody s_solver_rising) (defScope s_solver_rising) [] [] (He.fAd K ("Solver", some "rising")) fd := T.says.d.def_ 18 (d := df_solver_rising)
theorem Tx.d_solver_bounding (T : Tx K mg) : ∃ fd, FunD K "bounding" "Solver.bounding" (defArgs s_solver_bounding) (defBody s_solver_bounding) (defScope s_solver_bounding) [] [] (He.fAd K ("Solver", some "bounding")) fd := T.says.d.def_ 19 (d := df_solver_bounding)
theorem Tx.d_solver_exchange (T : Tx K mg) : ∃ fd, FunD K "exchange" "Solver.exchange" (defArgs s_solver_exchange) (defBody s_solver_exchange) (defScope s_solver_exchange) [] [] (He.fAd K ("Solver", some "exchange")) fd := T.says.d.def_ 20 (d := df_solver_exchange)
theorem Tx.d_solver_told (T : Tx K mg) : ∃ fd, FunD K "told" "Solver.told" (defArgs s_solver_told) (defBody s_solver_told) (defScope s_solver_told) [] [] (He.fAd K ("Solver", some "told")) fd := T.says.d.def_ 21 (d := df_solver_told)
theorem Tx.d_solver_price (T : Tx K mg) : ∃ fd, FunD K "price" "Solver.price" (defArgs s_solver_price) (defBody s_solver_price) (defScope s_solver_price) [] [] (He.fAd K ("Solver", some "price")) fd := T.says.d.def_ 22 (d := df_solver_price)
theorem Tx.d_solved (T : Tx K mg) : ∃ fd, FunD K "_solved" "_solved" (defArgs s_solved) (defBody s_solved) (defScope s_solved) [] [] (He.fAd K ("_solved", none)) fd := T.says.d.def_ 23 (d := df_solved)
theorem Tx.d_worth (T : Tx K mg) : ∃ fd, FunD K "worth" "worth" (defArgs s_worth) (defBody s_worth) (defScope s_worth) [] [] (He.fAd K ("worth", none)) fd := T.says.d.def_ 24 (d := df_worth)
theorem Tx.d_best_row (T : Tx K mg) : ∃ fd, FunD K "best_row" "best_row" (defArgs s_best_row) (defBody s_best_row) (defScope s_best_row) [] [] (He.fAd K ("best_row", none)) fd := T.says.d.def_ 25 (d := df_best_row)
theorem Tx.d_prices (T : Tx K mg) : ∃ fd, FunD K "prices" "prices" (defArgs s_prices) (defBody s_prices) (defScope s_prices) [] [] (He.fAd K ("prices", none)) fd := T.says.d.def_ 26 (d := df_prices)
theorem Tx.d_is_integer (T : Tx K mg) : ∃ fd, FunD K "_is_integer" "_is_integer" (defArgs s_is_integer) (defBody s_is_integer) (defScope s_is_integer) [] [] (He.fAd K ("_is_integer", none)) fd := T.says.d.def_ 27 (d := df_is_integer)
theorem Tx.d_table_init (T : Tx K mg) : ∃ fd, FunD K "__init__" "Table.__init__" (defArgs s_table_init) (defBody s_table_init) (defScope s_table_init) [] [] (He.fAd K ("Table", some "__init__")) fd := T.says.d.def_ 28 (d := df_table_init)
theorem Tx.d_table_texts (T : Tx K mg) : ∃ fd, FunD K "texts" "Table.texts" (defArgs s_table_texts) (defBody s_table_texts) (defScope s_table_texts) [] [] (He.fAd K ("Table", some "texts")) fd := T.says.d.def_ 29 (d := df_table_texts)
theorem Tx.d_table_weight_of (T : Tx K mg) : ∃ fd, FunD K "weight_of" "Table.weight_of" (defArgs s_table_weight_of) (defBody s_table_weight_of) (defScope s_table_weight_of) [] [] (He.fAd K ("Table", some "weight_of")) fd := T.says.d.def_ 30 (d := df_table_weight_of)
theorem Tx.d_table_share_of (T : Tx K mg) : ∃ fd, FunD K "share_of" "Table.share_of" (defArgs s_table_share_of) (defBody s_table_share_of) (defScope s_table_share_of) [] [] (He.fAd K ("Table", some "share_of")) fd := T.says.d.def_ 31 (d := df_table_share_of)
theorem Tx.d_marking_init (T : Tx K mg) : ∃ fd, FunD K "__init__" "Marking.__init__" (defArgs s_marking_init) (defBody s_marking_init) (defScope s_marking_init) [] [] (He.fAd K ("Marking", some "__init__")) fd := T.says.d.def_ 32 (d := df_marking_init)
theorem Tx.d_marking_texts (T : Tx K mg) : ∃ fd, FunD K "texts" "Marking.texts" (defArgs s_marking_texts) (defBody s_marking_texts) (defScope s_marking_texts) [] [] (He.fAd K ("Marking", some "texts")) fd := T.says.d.def_ 33 (d := df_marking_texts)
theorem Tx.d_accused_by (T : Tx K mg) : ∃ fd, FunD K "accused_by" "accused_by" (defArgs s_accused_by) (defBody s_accused_by) (defScope s_accused_by) [] [] (He.fAd K ("accused_by", none)) fd := T.says.d.def_ 34 (d := df_accused_by)
theorem Tx.d_written_table (T : Tx K mg) : ∃ fd, FunD K "written_table" "written_table" (defArgs s_written_table) (defBody s_written_table) (defScope s_written_table) [] [] (He.fAd K ("written_table", none)) fd := T.says.d.def_ 35 (d := df_written_table)
theorem Tx.d_marking_of_row (T : Tx K mg) : ∃ fd, FunD K "marking_of_row" "marking_of_row" (defArgs s_marking_of_row) (defBody s_marking_of_row) (defScope s_marking_of_row) [] [] (He.fAd K ("marking_of_row", none)) fd := T.says.d.def_ 36 (d := df_marking_of_row)
theorem Tx.d_best_marking (T : Tx K mg) : ∃ fd, FunD K "best_marking" "best_marking" (defArgs s_best_marking) (defBody s_best_marking) (defScope s_best_marking) [] [] (He.fAd K ("best_marking", none)) fd := T.says.d.def_ 37 (d := df_best_marking)
theorem Tx.d_accused_weights (T : Tx K mg) : ∃ fd, FunD K "_accused_weights" "_accused_weights" (defArgs s_accused_weights) (defBody s_accused_weights) (defScope s_accused_weights) [] [] (He.fAd K ("_accused_weights", none)) fd := T.says.d.def_ 38 (d := df_accused_weights)
theorem Tx.d_accused_most (T : Tx K mg) : ∃ fd, FunD K "accused_most" "accused_most" (defArgs s_accused_most) (defBody s_accused_most) (defScope s_accused_most) [] [] (He.fAd K ("accused_most", none)) fd := T.says.d.def_ 39 (d := df_accused_most)
theorem Tx.d_check_written (T : Tx K mg) : ∃ fd, FunD K "_check_written" "_check_written" (defArgs s_check_written) (defBody s_check_written) (defScope s_check_written) [] [] (He.fAd K ("_check_written", none)) fd := T.says.d.def_ 40 (d := df_check_written)
theorem Tx.d_found_share (T : Tx K mg) : ∃ fd, FunD K "found_share" "found_share" (defArgs s_found_share) (defBody s_found_share) (defScope s_found_share) [] [] (He.fAd K ("found_share", none)) fd := T.says.d.def_ 41 (d := df_found_share)
theorem Tx.d_least_found (T : Tx K mg) : ∃ fd, FunD K "_least_found" "_least_found" (defArgs s_least_found) (defBody s_least_found) (defScope s_least_found) [] [] (He.fAd K ("_least_found", none)) fd := T.says.d.def_ 42 (d := df_least_found)
theorem Tx.d_blind_share (T : Tx K mg) : ∃ fd, FunD K "blind_share" "blind_share" (defArgs s_blind_share) (defBody s_blind_share) (defScope s_blind_share) [] [] (He.fAd K ("blind_share", none)) fd := T.says.d.def_ 43 (d := df_blind_share)
theorem Tx.d_l_stream (T : Tx K mg) : ∃ fd, FunD K "_law_stream" "_law_stream" (defArgs s_l_stream) (defBody s_l_stream) (defScope s_l_stream) [] [] (He.fAd K ("_law_stream", none)) fd := T.says.d.def_ 44 (d := df_l_stream)
theorem Tx.d_l_draw (T : Tx K mg) : ∃ fd, FunD K "_law_draw" "_law_draw" (defArgs s_l_draw) (defBody s_l_draw) (defScope s_l_draw) [] [] (He.fAd K ("_law_draw", none)) fd := T.says.d.def_ 45 (d := df_l_draw)
theorem Tx.d_l_large (T : Tx K mg) : ∃ fd, FunD K "_law_large" "_law_large" (defArgs s_l_large) (defBody s_l_large) (defScope s_l_large) [] [] (He.fAd K ("_law_large", none)) fd := T.says.d.def_ 46 (d := df_l_large)
theorem Tx.d_l_lowest (T : Tx K mg) : ∃ fd, FunD K "_law_lowest" "_law_lowest" (defArgs s_l_lowest) (defBody s_l_lowest) (defScope s_l_lowest) [] [] (He.fAd K ("_law_lowest", none)) fd := T.says.d.def_ 47 (d := df_l_lowest)
theorem Tx.d_l_is_whole (T : Tx K mg) : ∃ fd, FunD K "_law_is_whole" "_law_is_whole" (defArgs s_l_is_whole) (defBody s_l_is_whole) (defScope s_l_is_whole) [] [] (He.fAd K ("_law_is_whole", none)) fd := T.says.d.def_ 48 (d := df_l_is_whole)
theorem Tx.d_l_is_share (T : Tx K mg) : ∃ fd, FunD K "_law_is_share" "_law_is_share" (defArgs s_l_is_share) (defBody s_l_is_share) (defScope s_l_is_share) [] [] (He.fAd K ("_law_is_share", none)) fd := T.says.d.def_ 49 (d := df_l_is_share)
theorem Tx.d_l_add (T : Tx K mg) : ∃ fd, FunD K "_law_add" "_law_add" (defArgs s_l_add) (defBody s_l_add) (defScope s_l_add) [] [] (He.fAd K ("_law_add", none)) fd := T.says.d.def_ 50 (d := df_l_add)
theorem Tx.d_l_pair_of (T : Tx K mg) : ∃ fd, FunD K "_law_pair_of" "_law_pair_of" (defArgs s_l_pair_of) (defBody s_l_pair_of) (defScope s_l_pair_of) [] [] (He.fAd K ("_law_pair_of", none)) fd := T.says.d.def_ 51 (d := df_l_pair_of)
theorem Tx.d_l_text (T : Tx K mg) : ∃ fd, FunD K "_law_text" "_law_text" (defArgs s_l_text) (defBody s_l_text) (defScope s_l_text) [] [] (He.fAd K ("_law_text", none)) fd := T.says.d.def_ 52 (d := df_l_text)
theorem Tx.d_l_pool (T : Tx K mg) : ∃ fd, FunD K "_law_pool" "_law_pool" (defArgs s_l_pool) (defBody s_l_pool) (defScope s_l_pool) [] [] (He.fAd K ("_law_pool", none)) fd := T.says.d.def_ 53 (d := df_l_pool)
theorem Tx.d_l_pairs (T : Tx K mg) : ∃ fd, FunD K "_law_pairs" "_law_pairs" (defArgs s_l_pairs) (defBody s_l_pairs) (defScope s_l_pairs) [] [] (He.fAd K ("_law_pairs", none)) fd := T.says.d.def_ 54 (d := df_l_pairs)
theorem Tx.d_l_paper_cost (T : Tx K mg) : ∃ fd, FunD K "_law_paper_cost" "_law_paper_cost" (defArgs s_l_paper_cost) (defBody s_l_paper_cost) (defScope s_l_paper_cost) [] [] (He.fAd K ("_law_paper_cost", none)) fd := T.says.d.def_ 55 (d := df_l_paper_cost)
theorem Tx.d_l_part (T : Tx K mg) : ∃ fd, FunD K "_law_part" "_law_part" (defArgs s_l_part) (defBody s_l_part) (defScope s_l_part) [] [] (He.fAd K ("_law_part", none)) fd := T.says.d.def_ 56 (d := df_l_part)
theorem Tx.d_l_case (T : Tx K mg) : ∃ fd, FunD K "_law_case" "_law_case" (defArgs s_l_case) (defBody s_l_case) (defScope s_l_case) [] [] (He.fAd K ("_law_case", none)) fd := T.says.d.def_ 57 (d := df_l_case)
theorem Tx.d_l_entries (T : Tx K mg) : ∃ fd, FunD K "_law_entries" "_law_entries" (defArgs s_l_entries) (defBody s_l_entries) (defScope s_l_entries) [] [] (He.fAd K ("_law_entries", none)) fd := T.says.d.def_ 58 (d := df_l_entries)
theorem Tx.d_l_blind (T : Tx K mg) : ∃ fd, FunD K "_law_blind" "_law_blind" (defArgs s_l_blind) (defBody s_l_blind) (defScope s_l_blind) [] [] (He.fAd K ("_law_blind", none)) fd := T.says.d.def_ 59 (d := df_l_blind)
theorem Tx.d_l_found (T : Tx K mg) : ∃ fd, FunD K "_law_found" "_law_found" (defArgs s_l_found) (defBody s_l_found) (defScope s_l_found) [] [] (He.fAd K ("_law_found", none)) fd := T.says.d.def_ 60 (d := df_l_found)
theorem Tx.d_l_most (T : Tx K mg) : ∃ fd, FunD K "_law_most" "_law_most" (defArgs s_l_most) (defBody s_l_most) (defScope s_l_most) [] [] (He.fAd K ("_law_most", none)) fd := T.says.d.def_ 61 (d := df_l_most)
theorem Tx.d_l_weights (T : Tx K mg) : ∃ fd, FunD K "_law_weights" "_law_weights" (defArgs s_l_weights) (defBody s_l_weights) (defScope s_l_weights) [] [] (He.fAd K ("_law_weights", none)) fd := T.says.d.def_ 62 (d := df_l_weights)
theorem Tx.d_l_worth_due (T : Tx K mg) : ∃ fd, FunD K "_law_worth_due" "_law_worth_due" (defArgs s_l_worth_due) (defBody s_l_worth_due) (defScope s_l_worth_due) [] [] (He.fAd K ("_law_worth_due", none)) fd := T.says.d.def_ 63 (d := df_l_worth_due)
theorem Tx.d_l_keys_of (T : Tx K mg) : ∃ fd, FunD K "_law_keys_of" "_law_keys_of" (defArgs s_l_keys_of) (defBody s_l_keys_of) (defScope s_l_keys_of) [] [] (He.fAd K ("_law_keys_of", none)) fd := T.says.d.def_ 64 (d := df_l_keys_of)
theorem Tx.d_l_best_fits (T : Tx K mg) : ∃ fd, FunD K "_law_best_fits" "_law_best_fits" (defArgs s_l_best_fits) (defBody s_l_best_fits) (defScope s_l_best_fits) [] [] (He.fAd K ("_law_best_fits", none)) fd := T.says.d.def_ 65 (d := df_l_best_fits)
theorem Tx.d_l_whole (T : Tx K mg) : ∃ fd, FunD K "_law_whole" "_law_whole" (defArgs s_l_whole) (defBody s_l_whole) (defScope s_l_whole) [] [] (He.fAd K ("_law_whole", none)) fd := T.says.d.def_ 66 (d := df_l_whole)
theorem Tx.d_law (T : Tx K mg) : ∃ fd, FunD K "law" "law" (defArgs s_law) (defBody s_law) (defScope s_law) [] [] (He.fAd K ("law", none)) fd := T.says.d.def_ 67 (d := df_law)
end
end MT
set_option maxHeartbeats 0
/-! The head's run. -/
namespace MT
open PySem PySem.Spec PyProof.Rows L2
abbrev R : PySem.W.OpenRow := PySem.W.OpenLaw.row PySem.Challenge.rw_marktruly_k51_whole_every_marking_witnes
/-! the Hook: the facts by names, and one Bool more -/
abbrev AlM : Type := He.AlD × Bool
def obsM (n : Nat) (fa : List He.Fa) (fn : List He.DefD) (ex : PySem.W.Frag → Bool) (g : Addr → Option Obj) : AlM := (He.obsD fa fn (He.frG g (He.asD g n)), ex (He.frG g (He.asD g n)))
def hookM (n : Nat) (fa : List He.Fa) (fn : List He.DefD) (ex : PySem.W.Frag → Bool) : PySem.W.Hook where
  α := AlM
  obs := fun s => obsM n fa fn ex s.heap.get?
  val := fun _ => (He.valD fn, true)
  says := fun _ h => ∃ K : PySem.W.Frag, K.In h ∧ SaysM fa fn ex K
  of := fun _ _ e => ⟨_, He.frG_in, ⟨congrArg (fun z : AlM => z.1) e, congrArg (fun z : AlM => z.2) e⟩⟩
  keeps := fun _ _ _ ⟨K, hK, c⟩ k => ⟨K, PySem.W.Frag.In.keeps hK k, c⟩
theorem obsM_eq {n : Nat} {fa : List He.Fa} {fn : List He.DefD} {ex : PySem.W.Frag → Bool} {g : Addr → Option Obj} {s : Shared} (h : ∀ a, g a = s.heap.get? a) : obsM n fa fn ex g = (hookM n fa fn ex).obs s := by
  have e : g = s.heap.get? := funext h
  rw [e] <;> rfl
abbrev hk : PySem.W.Hook := hookM 4 fa fn exB
def ob (s : PySem.W.SharedT) : AlM := obsM 4 fa fn exB (HandSHeadRun.getT s)
theorem ob_eq (s : PySem.W.SharedT) : ob s = hk.obs s.abs := obsM_eq (HandSHeadRun.getT_eq s)
abbrev qv : Program := PySem.W.view R.prog [68]
theorem runA (w : World) (os : OsState) : (HandSHeadRun.endF (HandSHeadRun.stepQ (HandSHeadRun.denQ HandSHeadRun.tabQ) R.prog w) 6000 R.prog w os).map (fun s => (HandSHeadRun.looksF R.prog (PySem.W.boot_heap w.params) s.abs, HandSHeadRun.seenQ qv loose (PySem.importedModules R.prog.main.body) (fun s => PySem.W.xlAt qv [] s && PySem.W.recOk R.toRowW.records s) s.abs)) = some (true, PySem.W.openGood qv loose) := by
  kernel_rfl
theorem runB (w : World) (os : OsState) : (HandSHeadRun.endF (HandSHeadRun.stepQ (HandSHeadRun.denQ HandSHeadRun.tabQ) R.prog w) 6000 R.prog w os).map ob = some (hk.val w) := by
  kernel_rfl
theorem run (w : World) : HandSHeadRun.RunEq R qv hk ob 6000 loose w := by
  intro os
  obtain ⟨s, hs, hv⟩ := Option.map_eq_some_iff.mp (runA w os)
  obtain ⟨s', hs', hv'⟩ := Option.map_eq_some_iff.mp (runB w os)
  rw [hs] at hs'
  obtain rfl : s = s' := Option.some.inj hs'
  refine Option.map_eq_some_iff.mpr ⟨s, hs, ?_⟩
  obtain ⟨h1, h2⟩ := Prod.mk.inj hv
  exact Prod.ext h1 (Prod.ext h2 hv')
end MT
set_option maxHeartbeats 4000000
/-! Rules of my own over the hand layer: an own class's operators, list(d.values()), sum(d.values()), sorted of a tuple of texts, enumerate of a tuple, list(reversed(xs)), sets of texts. -/
namespace MR
open PySem PySem.Spec PyProof.Rows L2
theorem kv_at : ∀ {kvs : List (Key × V)} {vs : List (Key × Value)} {i : Nat} {k : Key} {v : Value}, KV kvs vs → vs[i]? = some (k, v) → ∃ x, kvs[i]? = some (k, x) ∧ RelV x v
  | _, _, _, _, _, .nil, e => by simp at e
  | _, _, 0, k, v, .cons (a := q) r _, e => by
    have e' := Option.some.inj e
    rw [e'] at r
    exact ⟨q.2, by show some q = some (k, q.2); rw [show k = q.1 from r.1.symm], r.2⟩
  | _, _, i + 1, k, v, .cons _ t, e => by
    obtain ⟨x, h1, h2⟩ := kv_at t (by simpa using e)
    exact ⟨x, by simpa using h1, h2⟩
section
variable {X : Cx}
/-! ### an own class's operator -/
theorem op_own {op : Operator} {C f : Addr} {fd : FuncData} {ps : List Str} {k : Nat} {sp : Sp} (c : Cls X.K C) (hsf : PySem.W.selfFirst X.K C = true) (hm : Meth X.K C (PySem.dunder op.info.2) f)
    (F : FnOk X.prog X.w X.K X.mg X.base CX0 k f fd ps sp) (hr : Room k X.A) (hb : Binds X.K fd ps []) :
    OpR X (binaryOp op) (fun x y H Q => ∃ a b dx fs dy gs, x = .ref a ∧ y = .ref b ∧ H a = some (.ins C dx fs) ∧ H b = some (.ins C dy gs) ∧ sp [.ref a, .ref b] H (fun v H' => (∃ z, v = .ref z) ∧ Q v H') E0) := by
  intro pins s σ H x y v u Q I rx ry h
  obtain ⟨a, b, dx, fs, dy, gs, rfl, rfl, ha, hb2, q⟩ := h
  cases rx
  cases ry
  obtain ⟨m, Fr0⟩ := I.fr
  have inst : ∀ z dz hs, H z = some (.ins C dz hs) → ∃ od, PySem.W.InstAt s.heap z (PySem.W.instObj C dz) C od := fun z dz hs hz => by
    obtain ⟨hown, _, _, ez, _⟩ := I.hok z _ hz
    obtain ⟨o, eo⟩ := I.hok dz _ hown
    exact ⟨some o, ez, rfl, rfl, eo⟩
  obtain ⟨oa, Ia⟩ := inst a dx fs ha
  obtain ⟨ob, Ib⟩ := inst b dy gs hb2
  refine PySem.W.binop_K Fr0 I.mod.kin Ia Ib.type hsf hm.at_ hm.fn ?_
  refine thn (run_fn (us := [.ref a, .ref b]) (vs := [.ref a, .ref b]) (dvs := []) F hr hb .nil pass0 I (.cons rfl (.cons rfl .nil)) q) fun v' s' hv => ?_
  obtain ⟨z, H', I', r, ⟨z', rfl⟩, qz⟩ := hv
  cases r
  exact ⟨.ref z', H', I', rfl, qz⟩
/-! ### the values of a dict -/
/-- d.values() made: the view stands, nothing else is touched -/
theorem values_made {pins : List (Addr × Obj)} {σ : L2.St} {H : Hp} {s : Shared} {a : Addr} {kvs : List (Key × V)} (I : Inv X pins σ H s) (ha : Rd H a (.dK kvs)) :
    ∃ (vs : List (Key × Value)) (ep : Nat), KV kvs vs ∧ s.heap.DictAt (mixKind X.prog X.w) a vs ep ∧ (a == sysModules) = false ∧ kvs.length ≤ sizeLine := by
  obtain ⟨hz, hsys, vs, rel, dof⟩ := dk_rd I.hok ha
  obtain ⟨ep, dat⟩ := dof.dictAt
  exact ⟨vs, ep, rel, dat, hsys, hz⟩

theorem sum_walked {prog : Program} {w : World} {A : Around} {E : Value → Shared → Prop} {s : Shared} {T : String} {r d : Addr} {n : Nat} {P : Nat → Value → Prop} {OK : Heap → Prop} {Q : Value → Shared → Prop} (K : PySem.W.KdlSrc prog w T r d n P OK) (hh : A.handled = none) (hok : OK s.heap)
    (val : Nat → Int) (hval : ∀ (i : Nat) (v : Value), P i v → ∃ t : Tok, v = Value.int (val i) t)
    (h : ∀ (h' : Heap) (tk : Nat) (t' : Tok), (∀ b o, s.heap.get? b = some o → h'.get? b = some o) → Q (.int (preSum val n) t') { s with heap := h', toks := tk }) :
    wpAny (model prog w) A (call (.builtin "sum") [.ref r]) Q E s := by
  refine call_sum_walkAnyS ?_
  obtain ⟨oI, St, hit, W, st⟩ := K.iter A.in1 s hh hok
  refine hit _ _ ⟨s.heap.objs.size, _, _, _, n, P, _, val, rfl, W.toS, st, fun b hb => ?_, hval, fun s' t' hm => ?_⟩
  · have hs1 : (s.heap.push oI).objs.size = s.heap.objs.size + 1 := Heap.size_push _ _
    have := (K.there _ hok).2
    show b < (s.heap.push oI).objs.size
    rcases List.mem_cons.mp hb with e | e
    · rw [e, hs1]; exact Nat.lt_succ_self _
    · rw [List.mem_singleton.mp e, hs1]; exact Nat.lt_succ_of_lt this
  · have hk : ∀ b o, s.heap.get? b = some o → s'.heap.get? b = some o := fun b o e => by
      refine hm.heap b o (fun z => ?_) (Heap.get?_push_of_some _ e)
      have := Heap.lt_size e
      rw [List.mem_singleton.mp z] at this
      exact absurd this (Nat.lt_irrefl _)
    rw [Moved.eq_with hm]
    exact h _ _ _ hk
/-- sum(o.values()), ints -/
def tSumVals (td : TE) : TE := fun σ H Q => td σ H fun x H1 => ∃ (a : Addr) (kvs : List (Key × V)) (is : List Int), x = V.ref a ∧ Rd H1 a (.dK kvs) ∧ kvs.map (·.2) = is.map V.int ∧ Q (.int is.sum) H1
/-- list(o.values()) -/
def tListVals (td : TE) : TE := fun σ H Q => td σ H fun x H1 => ∃ (a : Addr) (kvs : List (Key × V)), x = V.ref a ∧ Rd H1 a (.dK kvs) ∧ ∀ p, H1 p = none → Q (.ref p) (upd H1 p (.lst (kvs.map (·.2))))
variable {o : Expr} {p pos apos mpos : Pos} {td : TE}
theorem preSum_list : ∀ (is : List Int), preSum (fun i => is.getD i 0) is.length = is.sum := by
  intro is
  have key : ∀ (is : List Int) (k : Nat), k ≤ is.length → preSum (fun i => is.getD i 0) k = (is.take k).sum := by
    intro is k
    induction k with
    | zero => intro _; rfl
    | succ k ih =>
      intro hk
      show preSum (fun i => is.getD i 0) k + is.getD k 0 = _
      have hlt : k < is.length := by omega
      rw [ih (by omega), L2.sum_take (z := is[k]) (List.getElem?_eq_getElem hlt), List.getD_eq_getElem?_getD, List.getElem?_eq_getElem hlt]
      rfl
  have := key is is.length (Nat.le_refl _)
  rwa [List.take_length] at this
theorem pe_sumVals (hc : X.calm = true) (hg : Gl X "sum") (hm : X.mg "sum" = none) (hd : PE X o td) (hbase : attributeBase o "values" X.env (eval o X.env) = eval o X.env := by rfl) (hline : (apos.endLine == mpos.line) = true := by rfl)
    (hse : starEach [Expr.Call (.Attribute o "values" apos) [] [] mpos] X.env = [(false, eval (Expr.Call (.Attribute o "values" apos) [] [] mpos) X.env)] := by rfl) :
    PE X (.Call (.Name "sum" p) [.Call (.Attribute o "values" apos) [] [] mpos] [] pos) (tSumVals td) := by
  refine ⟨fun pins s σ H Q I h => ?_⟩
  refine wpAny_Call_Name_kw (ld_blt I hg hm (u := .builtin "sum") (by decide +kernel) ?_ (by decide +kernel) (by decide +kernel))
  rw [hse]
  refine PySem.callWith_builtin1 (wpAny_Call_method0_late hbase hline (thn (hd.run pins s σ H _ I h) fun v s1 ⟨x, H1, I1, r1, a, kvs, is, ex, ha, hv, q⟩ => ?_))
  subst ex
  obtain rfl : v = Value.ref a := r1
  obtain ⟨vs, ep, rel, dat, hsys, hz⟩ := values_made I1 ha
  have hdat := dat
  obtain ⟨ob, es, ho, hx, hdat, hko, hpr, hnd⟩ := hdat
  refine ⟨"dict", "dict.values", F.plainAttrs_dict, F.slot_dict_values, F.type_dict_values, ⟨ob, ho, hx.1⟩, fun b e => ?_, Calls.callWith_builtin rfl (PySem.evalArgs_none ?_)⟩
  · cases e
    exact ⟨ob, ho, hx.2.1⟩
  refine call_meetsIn F.slot_dict_values ⟨ob, ho, hx.1⟩ F.entry_dict_values (F.args_dict_values_1 _) (meets_dict_values (mixKind X.prog X.w) a hsys) ⟨⟨vs, dat.dictOf⟩, ?_⟩
  have k1 : ∀ b u, s1.heap.get? b = some u → (s1.heap.push { cls := .type "dict_values", data := .fields #[.ref a] }).get? b = some u := fun b u e => Heap.get?_push_of_some _ e
  have hlv : vs.length = is.length := by
    have e1 := congrArg List.length hv
    rw [List.length_map, List.length_map] at e1
    rw [← e1]
    exact (KV.length rel).symm
  have hval : ∀ (i : Nat) (v : Value), (∃ k, vs[i]? = some (k, v)) → ∃ t, v = Value.int (is.getD i 0) t := fun i v ⟨k, hk⟩ => by
    obtain ⟨x, h1, h2⟩ := kv_at rel hk
    have e1 : (kvs.map (·.2))[i]? = some x := by rw [List.getElem?_map, h1]; rfl
    rw [hv, List.getElem?_map] at e1
    obtain ⟨j, hj, e2⟩ := Option.map_eq_some_iff.mp e1
    subst e2
    obtain ⟨t, e3⟩ := h2
    exact ⟨t, by rw [e3, List.getD_eq_getElem?_getD, hj]; rfl⟩
  refine sum_walked (s := { s1 with heap := s1.heap.push { cls := .type "dict_values", data := .fields #[.ref a] } }) (PySem.W.kdl_values (knd := mixKind X.prog X.w) (r := s1.heap.objs.size) (d := a) (kvs := vs) (ep := ep)) (I1.ok.hd hc) ⟨⟨_, Heap.get?_push_size _ rfl, rfl, rfl⟩, dat.keep k1⟩ (fun i => is.getD i 0) hval fun h' tk t' hk => ?_
  have J : Inv X pins σ H1 { s1 with heap := h', toks := tk } := I1.kept fun b u e => hk b u (k1 b u e)
  refine ⟨.int is.sum, H1, J, ⟨t', ?_⟩, q⟩
  rw [hlv, preSum_list]
theorem pe_listVals (hc : X.calm = true) (hg : Gl X "list") (hm : X.mg "list" = none) (hd : PE X o td) (hbase : attributeBase o "values" X.env (eval o X.env) = eval o X.env := by rfl) (hline : (apos.endLine == mpos.line) = true := by rfl)
    (hs : starEach [.Call (.Attribute o "values" apos) [] [] mpos] X.env = (false, eval (.Call (.Attribute o "values" apos) [] [] mpos) X.env) :: starEach [] X.env := by rfl) :
    PE X (.Call (.Name "list" p) [.Call (.Attribute o "values" apos) [] [] mpos] [] pos) (tListVals td) := by
  refine ⟨fun pins s σ H Q I h => ?_⟩
  refine wpAny_Call_Name_kw (ld_blt I hg hm (u := .type "list") (by decide +kernel) ?_ (by decide +kernel) (by decide +kernel))
  refine PyProof.Rows.callWith_type1 ?_ hs rfl
  rw [hs]
  show wpAny _ _ (spliced ((false, eval (.Call (.Attribute o "values" apos) [] [] mpos) X.env) :: backTo pos (starEach [] X.env))) _ _ s
  refine Calls.spliced_cons (wpAny_Call_method0_late hbase hline (thn (hd.run pins s σ H _ I h) fun v s1 ⟨x, H1, I1, r1, a, kvs, ex, ha, q⟩ => ?_))
  subst ex
  obtain rfl : v = Value.ref a := r1
  obtain ⟨vs, ep, rel, dat, hsys, hz⟩ := values_made I1 ha
  have hdat := dat
  obtain ⟨ob, es, ho, hx, hdat, hko, hpr, hnd⟩ := hdat
  refine ⟨"dict", "dict.values", F.plainAttrs_dict, F.slot_dict_values, F.type_dict_values, ⟨ob, ho, hx.1⟩, fun b e => ?_, Calls.callWith_builtin rfl (PySem.evalArgs_none ?_)⟩
  · cases e
    exact ⟨ob, ho, hx.2.1⟩
  refine call_meetsIn F.slot_dict_values ⟨ob, ho, hx.1⟩ F.entry_dict_values (F.args_dict_values_1 _) (meets_dict_values (mixKind X.prog X.w) a hsys) ⟨⟨vs, dat.dictOf⟩, ?_⟩
  have k1 : ∀ b u, s1.heap.get? b = some u → (s1.heap.push { cls := .type "dict_values", data := .fields #[.ref a] }).get? b = some u := fun b u e => Heap.get?_push_of_some _ e
  have hlv := KV.length rel
  refine Calls.spliced_nil ?_
  refine PySem.W.kdl_call (s := { s1 with heap := s1.heap.push { cls := .type "dict_values", data := .fields #[.ref a] } }) (PySem.W.kdl_values (knd := mixKind X.prog X.w) (r := s1.heap.objs.size) (d := a) (kvs := vs) (ep := ep)) (I1.ok.hd hc) ⟨⟨_, Heap.get?_push_size _ rfl, rfl, rfl⟩, dat.keep k1⟩ (by rw [← hlv]; exact hz) fun h' tk acc c hk hS hacc => ?_
  have sz : (s1.heap.push { cls := .type "dict_values", data := .fields #[.ref a] }).objs.size = s1.heap.objs.size + 1 := Heap.size_push _ _
  have hn : H1 (s1.heap.push { cls := .type "dict_values", data := .fields #[.ref a] }).objs.size = none := I1.hok.fresh (by rw [sz]; exact Nat.le_succ _)
  have hvals : Vals (kvs.map (·.2)) acc.toList := by
    have hl : (kvs.map (·.2)).length = acc.toList.length := by
      have e1 : acc.toList.length = acc.size := Array.length_toList
      rw [List.length_map, e1, hacc.1, hlv]
    have key : ∀ (xs : List V) (us : List Value), xs.length = us.length → (∀ (i : Nat) (u : Value), us[i]? = some u → ∃ x, xs[i]? = some x ∧ RelV x u) → Vals xs us := by
      intro xs
      induction xs with
      | nil => intro us h1 _; cases us with
        | nil => exact .nil
        | cons _ _ => simp at h1
      | cons x xs ih => intro us h1 h2; cases us with
        | nil => simp at h1
        | cons u us =>
          obtain ⟨y, e1, e2⟩ := h2 0 u rfl
          cases (Option.some.inj e1 : x = y)
          exact .cons e2 (ih us (by simpa using h1) fun i u' hu => by simpa using h2 (i + 1) u' (by simpa using hu))
    refine key _ _ hl fun i u hu => ?_
    obtain ⟨k, hk'⟩ := hacc.2 i u (by rw [← Array.getElem?_toList]; exact hu)
    obtain ⟨x, h1, h2⟩ := kv_at rel hk'
    exact ⟨x, by rw [List.getElem?_map, h1]; rfl, h2⟩
  have hh : ∀ b u, s1.heap.get? b = some u → h'.get? b = some u := fun b u e => hk b u (k1 b u e)
  refine ⟨.ref _, upd H1 _ (.lst (kvs.map (·.2))), I1.laid (t' := tk) hh (by rw [sz]; exact Nat.le_succ _) ⟨by rw [List.length_map]; exact hz, acc.toList, c, hvals, ?_⟩, rfl, q _ hn⟩
  rw [Array.toArray_toList]
  exact hS
end
end MR
set_option maxHeartbeats 4000000
namespace MR
open PySem PySem.Spec PyProof.Rows L2
/-! ### enumerate of a tuple -/
theorem enumNew {v : Value} {o : Obj} {HB : Heap → Prop} (B : Begins v o HB) :
    Meets (Builtin.«enumerate.__new__» ⟨[.type "enumerate", v], []⟩) (fun _ R s => HB s.heap ∧
      R (.ok (.ret (.ref (s.heap.push o).objs.size))) { s with heap := (s.heap.push o).push { cls := .type "enumerate", data := .fields #[.none, .bool false, .ref s.heap.objs.size, rawInt 0, .none, .none] } }) :=
  .of_wp fun prog w A R s hyp => by
    obtain ⟨hp, g, d, tk, os⟩ := s
    obtain ⟨hb, q⟩ := hyp
    have hsub := sub_enumerate
    have walk : ∀ {A' : Around} {E : Value → Shared → Prop} {Q : Value → Shared → Prop}, Q (.ref hp.objs.size) ⟨hp.push o, g, d, tk, os⟩ → wpAny (model prog w) A' (pyIter v) Q E ⟨hp, g, d, tk, os⟩ := fun z => B.iter prog w _ _ ⟨hp, g, d, tk, os⟩ _ hb z
    wp_walk using walk
    refine wpAny_stack_any fun st => wpAny_pure ?_
    split
    · rename_i c _ _ _ _ _
      cases (c == Value.type "enumerate") <;> (wp_walk using walk; exact ⟨_, rfl, q⟩)
    · wp_walk using walk
      exact ⟨_, rfl, q⟩
section
variable {prog : Program} {w : World} {A : Around} {E : Value → Shared → Prop} {s : Shared}
theorem call_enumB {v : Value} {o : Obj} {HB : Heap → Prop} {Q : Value → Shared → Prop} (B : Begins v o HB) (hb : HB s.heap)
    (q : ∀ h', IsEnum h' (s.heap.objs.size + 1) s.heap.objs.size 0 .none → h'.get? s.heap.objs.size = some o → (∀ b u, s.heap.get? b = some u → h'.get? b = some u) → Q (.ref (s.heap.objs.size + 1)) { s with heap := h' }) :
    wpAny (model prog w) A (call (.type "enumerate") [v]) Q E s := by
  refine callType_new F.called_enumerate (by decide) (F.typeCall_enumerate_1 _) (F.newCall_enumerate_1 _) (fun obj => F.args_object_init_2 obj _) F.entry_enumerate_new (enumNew B) ⟨hb, ?_⟩
  have sz : (s.heap.push o).objs.size = s.heap.objs.size + 1 := Heap.size_push _ _
  show _ ∧ _
  rw [sz]
  have at1 : IsEnum ((s.heap.push o).push { cls := .type "enumerate", data := .fields #[.none, .bool false, .ref s.heap.objs.size, rawInt 0, .none, .none] }) (s.heap.objs.size + 1) s.heap.objs.size 0 .none := by
    have z := Heap.get?_push_size (s.heap.push o) (o := { cls := .type "enumerate", data := .fields #[.none, .bool false, .ref s.heap.objs.size, rawInt 0, .none, .none] }) rfl
    rw [sz] at z
    exact z
  exact ⟨⟨_, at1, rfl⟩, q _ at1 (Heap.get?_push_of_some _ (Heap.get?_push_size _ B.free)) fun b u x => Heap.get?_push_of_some _ (Heap.get?_push_of_some _ x)⟩
end
/-- the tuple at a, each item in a new pair with its place -/
def IteT (K : PySem.W.Frag) (a : Addr) : It :=
  ⟨fun i H => ∃ (xs : List V) (x : V), SqT K H a xs ∧ xs[i]? = some x, fun i H v H' => ∃ T x, v = .ref T ∧ H T = none ∧ H' = upd H T (.tup [.int (i : Nat), x]) ∧ ∀ xs, SqT K H a xs → xs[i]? = some x, fun i H => ∃ xs : List V, SqT K H a xs ∧ xs.length ≤ i⟩
theorem turn_enumT {P : Program} {w : World} {K : PySem.W.Frag} {elts : List Expr} {kk : Nat} {tpos : Pos} (a e it : Addr) :
    Turn P w K (.Tuple elts kk tpos) (IteT K a) [e, it] e (fun i h => (∃ old, IsEnum h e it ((i : Nat) : Int) old) ∧ h.IsTupleIter it a i ∧ e ≠ it ∧ a ≠ it ∧ a ≠ e) where
  mem := by simp
  obj := fun i h st b hb => by
    obtain ⟨⟨old, he⟩, ⟨o, ho, hc, hd⟩, _⟩ := st
    rcases (show b = e ∨ b = it by simpa using hb) with z | z
    · subst z; exact ⟨_, he, fun v q => nomatch q⟩
    · subst z; exact ⟨o, ho, fun v q => by rw [hd] at q; cases q⟩
  keep := fun i h h' st k => let ⟨⟨old, he⟩, hi, hne⟩ := st; ⟨⟨old, k e (by simp) _ he⟩, hi.at fun o q => k it (by simp) o q, hne⟩
  item := by
    intro X hP hw hK hc i pins s σ H E I hf st hg
    subst hP hw hK
    obtain ⟨⟨old, he⟩, hit, hne, hai, hae⟩ := st
    obtain ⟨xs, x, hq, hx⟩ := hg
    obtain ⟨its, rv, p, hz⟩ := I.tuple hq
    obtain ⟨u, hu, ru⟩ := rv.get hx
    have hel : e < s.heap.objs.size := Heap.lt_size he
    have hil : it < s.heap.objs.size := by obtain ⟨_, q, _⟩ := hit; exact Heap.lt_size q
    have hi : i < its.toArray.size := by
      have := (List.getElem?_eq_some_iff.mp hu).1
      simpa using this
    refine wpAny_pyNext_enum_itemD (fp := [it, a]) (Draws.tuple (A := X.A.in1) (I.ok.hd hc) it a hai its.toArray) he ⟨hit, p⟩ hi hne (by simp [hne, Ne.symm hae]) fun y h' tk hy ho hst hT hsz hk => ?_
    have hyu : y = u := by
      have e1 : its.toArray[i]? = some u := by simpa using hu
      rw [hy] at e1
      exact Option.some.inj e1
    subst hyu
    refine ⟨_, rfl, wpAny_letOwnedTupleGo_enum (s := { s with heap := h', toks := tk + 1 }) ho fun h'' he' sb => ?_⟩
    have hT2 : h''.get? s.heap.objs.size = some { cls := .type "tuple", data := .seq #[.int i tk, y] } := (sb.2 _ (Nat.ne_of_gt hel)).trans hT
    have new : ObjOk X.prog X.w (upd H s.heap.objs.size (.tup [.int (i : Nat), x])) h'' s.heap.objs.size (.tup [.int (i : Nat), x]) :=
      ⟨by show 2 ≤ sizeLine; decide, [.int i tk, y], .cons ⟨_, rfl⟩ (.cons ru .nil), ⟨_, hT2, rfl, _, rfl⟩⟩
    have I1 : Inv X pins σ (upd H s.heap.objs.size (.tup [.int (i : Nat), x])) { s with heap := h'', toks := tk + 1 } :=
      I.turnedNew (ch := [e, it]) (fun b ob hb q => (sb.2 b (fun z => hb (by simp [z]))).trans (hk b ob (fun z => hb (by simp [z])) (fun z => hb (by simp [z])) q)) hf (Nat.le_refl _) new
    refine ⟨.ref s.heap.objs.size, _, I1, rfl, ⟨_, x, rfl, I.hok.fresh (Nat.le_refl _), rfl, fun ys hy => by rw [I.tuple_inj hy hq]; exact hx⟩, ⟨⟨y, ?_⟩, hst.1.at fun o q => (sb.2 it (Ne.symm hne)).trans q, hne, hai, hae⟩, fun b hb => ?_⟩
    · have e1 : ((i + 1 : Nat) : Int) = (i : Int) + 1 := by omega
      rw [e1]; exact he'
    · have hlt : b < s.heap.objs.size := by
        rcases (show b = e ∨ b = it by simpa using hb) with z | z
        · rw [z]; exact hel
        · rw [z]; exact hil
      rw [upd_ne (Nat.ne_of_lt hlt)]
      exact (hf b hb).1
  done := by
    intro X hP hw hK hc i pins s σ H E I hf st hg
    subst hP hw hK
    obtain ⟨⟨old, he⟩, hit, hne, hai, hae⟩ := st
    obtain ⟨xs, hq, hx⟩ := hg
    obtain ⟨its, rv, p, hz⟩ := I.tuple hq
    obtain ⟨f0, f1, f2, f3, f4, f5⟩ := hf it (by simp)
    have hT : s.TypeIs (.ref e) "enumerate" := ⟨_, he, rfl⟩
    have hl := rv.length
    unfold pyNext
    refine wpAny_bind (wpAny_attempt (wpAny_callSpecial?_slot (name := Str.ofString "__next__") hT F.slot_enumerate_next (wpAny_call_entry F.slot_enumerate_next hT F.entry_enumerate_next ?_ (F.args_enumerate_next_1 _))))
    show wpAny _ _ (field (.ref e) 2 >>= _) _ _ _
    refine wpAny_bind (wpAny_field he rfl (x := .ref it) rfl ?_)
    refine wpAny_bind (wpAny_nextOf_tuple_end (I.ok.hd hc) hit p (by simp; omega) fun h' x eb hx' => ?_)
    obtain ⟨o, ho, hcl⟩ := hx'
    refine wpAny_bind (wpAny_isInstance (T := "StopIteration") (b := true) ⟨o, ho, hcl⟩ isSubtype_stop ?_)
    exact wpAny_pure ⟨rfl, I.turned (t' := s.toks) (fun b o hb q => eb b o hb q) f0 f1 f3 f4 f5⟩
  self := fun A i s Q E st h => let ⟨⟨_, he⟩, _⟩ := st; wpAny_pyIter_enum he h
def iEnumT (K : PySem.W.Frag) (ta : TA) : TI := fun σ H R => ta σ H fun vs H1 => ∃ (a : Addr) (xs : List V), vs = [.ref a] ∧ SqT K H1 a xs ∧ R (IteT K a) H1
theorem pi_enumT {X : Cx} {e : Expr} {ta : TA} {p pos tpos : Pos} {elts : List Expr} {kk : Nat} (hg : Gl X "enumerate") (hm : X.mg "enumerate" = none) (ha : PA X [e] ta) (hs : starEach [e] X.env = [(false, eval e X.env)] := by rfl) :
    PI X (.Tuple elts kk tpos) (.Call (.Name "enumerate" p) [e] [] pos) (iEnumT X.K ta) := by
  refine ⟨fun pins s σ H R I h => ?_⟩
  refine Call_ (ld_blt I hg hm boot_enumerate (PyProof.Rows.callWith_type1 (thn (ha.run pos pins s σ H _ I h) fun us s1 ⟨vs, H1, I1, r1, q1⟩ => ?_) hs rfl))
  obtain ⟨a, xs, ex, hq, q⟩ := q1
  subst ex
  cases r1 with
  | cons r rr =>
    cases rr
    cases r
    obtain ⟨its, rv, p', hz⟩ := I1.tuple hq
    have hla : a < s1.heap.objs.size := by obtain ⟨_, z, _⟩ := p'; exact Heap.lt_size z
    refine call_enumB (begins_tuple a its.toArray) p' fun h' he hit hk => wpAny_pyIter_enum he ?_
    have I2 : Inv X pins σ H1 { s1 with heap := h' } := I1.kept (t' := s1.toks) hk
    refine ⟨s1.heap.objs.size + 1, [s1.heap.objs.size + 1, s1.heap.objs.size], _, _, H1, rfl, I2, turn_enumT a (s1.heap.objs.size + 1) s1.heap.objs.size, ⟨⟨.none, he⟩, ⟨_, hit, rfl, rfl⟩, Nat.succ_ne_self _, Nat.ne_of_lt hla, Nat.ne_of_lt (Nat.lt_succ_of_lt hla)⟩, fun b hb => ?_, q⟩
    have hle : s1.heap.objs.size ≤ b := by
      rcases (show b = s1.heap.objs.size + 1 ∨ b = s1.heap.objs.size by simpa using hb) with z | z
      · rw [z]; exact Nat.le_add_right _ _
      · rw [z]; exact Nat.le_refl _
    exact I1.fpOk hle (I1.hok.fresh hle)
theorem walk_enumT {K : PySem.W.Frag} {a : Addr} {xs : List V} : Walk (IteT K a) xs.length (fun H => SqT K H a xs) (YPair (fun i => some (.int (i : Nat))) (fun i => xs[i]?)) := by
  refine ⟨fun i _ hi q => ⟨xs, xs[i], q, by simp [hi]⟩, fun _ q => ⟨xs, q, Nat.le_refl _⟩, fun i H v H' _ q y => ?_⟩
  obtain ⟨T, x, h1, h2, h3, h4⟩ := y
  exact ⟨T, .int (i : Nat), x, h1, h2, h3, rfl, h4 xs q⟩
/-! ### sorted of texts, whatever is gone through -/
section
variable {X : Cx}
theorem sorted_gone {pins : List (Addr × Obj)} {σ : L2.St} {H : Hp} {s : Shared} {a : Addr} {ks : List Str} {Q : VK} (I : Inv X pins σ H s) (h64 : ks.length < 64)
    (hcol : ∀ Qc : List Value → Shared → Prop, (∀ s' acc, (∀ b u, s.heap.get? b = some u → s'.heap.get? b = some u) → AllBare s'.gens → s'.os = s.os → StrsAre acc ks → Qc acc s') → wpAny (model X.prog X.w) X.A.in1 (collect (.ref a)) Qc X.xe s)
    (q : ∀ ys p, ys.Perm ks → sortedS ys = true → H p = none → Q (.ref p) (upd H p (.lst (ys.map V.str)))) :
    wpAny (model X.prog X.w) X.A (call (.builtin "sorted") [.ref a]) (EP X pins σ Q) X.xe s := by
  refine Calls.call_function_entry PyProof.Rows.kind_sorted PyProof.Rows.plain_sorted PyProof.Rows.entry_sorted (PyProof.Rows.args_sorted1 _) ?_
  unfold Builtin.«sorted»
  refine wpAny_bind (m := checkCount "sorted" 1 1 _) (wpAny_pure ?_)
  refine wpAny_bind (hcol _ fun s1 acc hk hg ho hS => ?_)
  have hal : acc.length = ks.length := PyProof.Rows.StrsAre.len_eq hS
  have I1 : Inv X pins σ H s1 := I.call' (ch := []) ho (Un.kept hk) (I.hok.kept hk) hg (fun _ z => nomatch z)
  refine wpAny_bind (wpAny_newList ?_ (by rw [hal, sizeLine_eq]; omega))
  have at1 : (s1.heap.push (seqObj "list" acc.toArray 0)).get? s1.heap.objs.size = some (seqObj "list" acc.toArray 0) := Heap.get?_push_size _ rfl
  refine wpAny_bind (wpAny_holding (wpAny_call_entry PyProof.Rows.slot_list_sort ⟨_, at1, rfl⟩ PyProof.Rows.entry_list_sort
    (list_sort_treeK strKind_oneLt at1 hS.keysOf (fun v₁ v₂ rest e => keyKind_strs (by rw [← e]; exact hS)) (by rw [hal]; exact h64) fun st' hp hs => ⟨_, rfl, ?_⟩) (PyProof.Rows.args_list_sort _)))
  obtain ⟨ys, g1, g2, g3⟩ := sorted_out_str hS hp hs
  obtain ⟨e', he'⟩ := PyProof.Rows.sortedHeap_at (vs := acc) (out := (arrOf st').map (·.2)) at1
  have hlen : (ys.map V.str).length ≤ sizeLine := by
    rw [List.length_map, g2.length_eq, sizeLine_eq]; omega
  refine wpAny_pure ⟨_, rfl, .ref s1.heap.objs.size, upd H s1.heap.objs.size (.lst (ys.map V.str)), I1.laid (t' := s1.toks) (fun b u e => ?_) (Nat.le_refl _)
    (show ObjOk X.prog X.w _ _ _ (.lst (ys.map V.str)) from ⟨hlen, ((arrOf st').map (·.2)).toList, e', vals_of_strs g1, by rw [Array.toArray_toList]; exact he'⟩), rfl, q ys _ g2 g3 (I1.hok.fresh (Nat.le_refl _))⟩
  have hb : b < s1.heap.objs.size := Heap.lt_size e
  rw [PyProof.Rows.sortedHeap_old (Nat.ne_of_lt hb) (by rw [Heap.size_push]; exact Nat.lt_succ_of_lt hb)]
  exact Heap.get?_push_of_some _ e
/-- sorted(t), a tuple or a list of texts -/
def rSortT (K : PySem.W.Frag) : List V → Hp → VK → Prop := fun xs H Q => ∃ (a : Addr) (ks : List Str), xs = [.ref a] ∧ (SqL K H a (ks.map V.str) ∨ SqT K H a (ks.map V.str)) ∧ ks.length < 64 ∧
    ∀ ys p, ys.Perm ks → sortedS ys = true → H p = none → Q (.ref p) (upd H p (.lst (ys.map V.str)))
theorem cr_sortT : CallR X (.builtin "sorted") (rSortT X.K) := by
  intro pins s σ H xs us Q I r h
  obtain ⟨a, ks, rfl, hs, h64, q⟩ := h
  rw [Vals.ref1 r]
  refine sorted_gone I h64 (fun Qc hq => ?_) q
  rcases hs with hs | hs
  · obtain ⟨its, rv, p, hz⟩ := I.list hs
    obtain ⟨o, ho, hc, n, hd⟩ := p.isList
    exact wpAny_collect_seq a (.inl rfl) ho hc hd (fun h' hk => hq _ _ hk I.bare rfl (by simpa using rv.strs)) (by rw [List.size_toArray, ← rv.length]; exact hz)
  · obtain ⟨its, rv, p, hz⟩ := I.tuple hs
    obtain ⟨o, ho, hc, n, hd⟩ := p
    exact wpAny_collect_seq a (.inr rfl) ho hc hd (fun h' hk => hq _ _ hk I.bare rfl (by simpa using rv.strs)) (by rw [List.size_toArray, ← rv.length]; exact hz)
end
end MR
set_option maxHeartbeats 4000000
namespace MR
open PySem PySem.Spec PyProof.Rows L2
/-! ### list(reversed(xs)) -/
section
variable {prog : Program} {w : World} {A : Around} {E : Value → Shared → Prop} {s : Shared}
theorem rev_init {R : Result → Shared → Prop} {it l S : Addr} {items : Array Value} (hh : A.handled = none) (hit : s.heap.IsRevIter it l ((items.size : Int) - 1)) (hl : s.heap.IsList l items) (hne : l ≠ it) (hn : items.size ≤ sizeLine) (hSi : S ≠ it) (hSl : S ≠ l)
    (hS : s.heap.get? S = some { cls := .type "list", data := .seq #[] })
    (hR : ∀ h' tk acc c, (∀ b o, b ≠ S → b ≠ it → s.heap.get? b = some o → h'.get? b = some o) → h'.get? S = some { cls := .type "list", dict := none, data := .seq acc c, slots := #[] } → ItemsOf (fun i v => items[items.size - 1 - i]? = some v) acc items.size → R (.ok (.ret .none)) { s with heap := h', toks := tk }) :
    wpAny (model prog w) A.in1 (Builtin.«list.__init__» ⟨[.ref S, .ref it], []⟩)
      (fun fin s' => match fin with | .done f => R (.ok f) s' | .again c' => c'.quiet = true ∧ codeAny (model prog w) A c' R s') (fun e s' => R (.error e) s') s := by
  show wpAny _ _ (do let old ← Builtin.List.listItems (.ref S); Builtin.List.listUpdate (.ref S) (fun _ => #[]); letGo old.toList.reverse; Builtin.List.listExtendWith (.ref S) (.ref it) .none) _ _ s
  refine wpAny_bind ?_
  unfold Builtin.List.listItems
  refine wpAny_bind (wpAny_seqItems hS rfl (wpAny_pure ?_))
  show wpAny _ _ (updateSeq S (fun _ => #[]) >>= fun _ => letGo (#[] : Array Value).toList.reverse >>= fun _ => Builtin.List.listExtendWith (.ref S) (.ref it) .none) _ _ s
  refine wpAny_bind (wpAny_updateSeq hS rfl ?_)
  have at2 := Heap.get?_update_self (Obj.mapSeq (fun _ => (#[] : Array Value))) hS rfl
  have oth : ∀ b o, b ≠ S → s.heap.get? b = some o → (s.heap.update S (Obj.mapSeq (fun _ => (#[] : Array Value)))).get? b = some o := fun b o hb e => (Heap.get?_update_other _ _ (Ne.symm hb)).trans e
  refine wpAny_bind (wpAny_letGo ?_)
  have hit1 : (s.heap.update S (Obj.mapSeq (fun _ => (#[] : Array Value)))).IsRevIter it l ((items.size : Int) - 1) := hit.at fun o e => oth it o (Ne.symm hSi) e
  have hl1 : (s.heap.update S (Obj.mapSeq (fun _ => (#[] : Array Value)))).IsList l items := hl.at fun o e => oth l o (Ne.symm hSl) e
  have W := (Walks.listRev (prog := prog) (w := w) (A := A.in1) hh it l hne items).toS
  have hSf : S ∉ [it, l] := by simp only [List.mem_cons, List.not_mem_nil, or_false, not_or]; exact ⟨hSi, hSl⟩
  have hT : ({ s with heap := s.heap.update S (Obj.mapSeq (fun _ => (#[] : Array Value))) } : Shared).TypeIs (.ref it) "list_reverseiterator" := Heap.IsRevIter.typeIs (s := { s with heap := s.heap.update S (Obj.mapSeq (fun _ => (#[] : Array Value))) }) hit1
  have h1 : Builtin.List.listSameRef (.ref S) (.ref it) = false := by simp [Builtin.List.listSameRef, hSi]
  unfold Builtin.List.listExtendWith
  refine wpAny_bind (wpAny_typeOf hT ?_)
  rw [if_neg (by rw [h1]; decide)]
  refine wpAny_bind (wpAny_pyIter_revIter (s := { s with heap := s.heap.update S (Obj.mapSeq (fun _ => (#[] : Array Value))) }) hit1 ?_)
  refine wpAny_bind (wpAny_holding ?_)
  unfold Builtin.List.listLengthHint
  refine wpAny_bind (wpAny_specialOf hT RT.nolen_lri ?_)
  show wpAny _ A.in1 (specialOf (Value.ref it) (Str.ofString "__length_hint__") >>= _) _ _ _
  refine wpAny_bind (wpAny_specialOf hT RT.hint_lri ?_)
  generalize hid : ("list_reverseiterator.__length_hint__" : String) = id0
  wp_delta
  rw [show splitId id0 = some ("list_reverseiterator", "__length_hint__") from by subst hid; decide +kernel]
  subst hid
  refine wpAny_bind (wpAny_isInstance (b := true) hT (by rw [isSubtype_type]; kernel_rfl) ?_)
  refine wpAny_pure ?_
  rw [if_neg (by decide)]
  have e0 : ((items.size : Nat) : Int) - 1 - ((0 : Nat) : Int) = (items.size : Int) - 1 := by omega
  refine wpAny_pure ⟨plainId_quiet PySem.F.plain_extend_loop _, codeAny_extend_loopS W hn S hSf .none items.size 0 _ #[] _ rfl (Nat.zero_le _) ⟨Nat.zero_le _, by rw [e0]; exact hit1, hl1⟩ at2 (ItemsOf.nil _) fun s' acc c hm hS' hacc => ?_⟩
  rw [Moved.eq_with hm]
  refine hR s'.heap s'.toks acc c (fun b o hb hbi e => hm.heap b o (fun hmem => ?_) (oth b o hb e)) hS' hacc
  rcases List.mem_cons.mp hmem with z | z
  · exact hb z
  · exact hbi (List.mem_singleton.mp z)
theorem call_list_rev {it l : Addr} {items : Array Value} {Q : Value → Shared → Prop} (hh : A.handled = none) (hit : s.heap.IsRevIter it l ((items.size : Int) - 1)) (hl : s.heap.IsList l items) (hne : l ≠ it) (hn : items.size ≤ sizeLine)
    (hQ : ∀ h' tk acc c, (∀ b o, b ≠ it → s.heap.get? b = some o → h'.get? b = some o) → h'.get? s.heap.objs.size = some { cls := .type "list", dict := none, data := .seq acc c, slots := #[] } → ItemsOf (fun i v => items[items.size - 1 - i]? = some v) acc items.size → Q (.ref s.heap.objs.size) { s with heap := h', toks := tk }) :
    wpAny (model prog w) A (call (.type "list") [.ref it]) Q E s := by
  refine callType_codes (Q₁ := fun obj s₁ => obj = .ref s.heap.objs.size ∧ s₁ = { s with heap := s.heap.push { cls := .type "list", data := .seq #[] } }) PySem.F.called_list (PySem.F.typeCall_list_1 _) PySem.F.entry_list_init (code_list_new _ ⟨rfl, rfl⟩) fun obj s₁ h₁ => ?_
  obtain ⟨rfl, rfl⟩ := h₁
  have hS : (s.heap.push { cls := .type "list", data := .seq #[] }).get? s.heap.objs.size = some { cls := .type "list", data := .seq #[] } := Heap.get?_push_size _ rfl
  obtain ⟨oi, hoi, _⟩ := id hit
  obtain ⟨ol, hol, _⟩ := id hl
  refine ⟨⟨_, hS, rfl⟩, PySem.F.args_list_init_2 _ _, rev_init (A := A.in1) hh (hit.at fun o e => Heap.get?_push_of_some _ e) (hl.push _) hne hn (Nat.ne_of_gt (Heap.lt_size hoi)) (Nat.ne_of_gt (Heap.lt_size hol)) hS (fun h' tk acc c hk hS' hacc => ?_)⟩
  exact ⟨rfl, hQ h' tk acc c (fun b o hb e => hk b o (Nat.ne_of_lt (Heap.lt_size e)) hb (Heap.get?_push_of_some _ e)) hS' hacc⟩
end
section
variable {X : Cx}
def tListRev (K : PySem.W.Frag) (te : TE) : TE := fun σ H Q => te σ H fun v H1 => ∃ (a : Addr) (xs : List V), v = .ref a ∧ SqL K H1 a xs ∧ ∀ q, H1 q = none → Q (.ref q) (upd H1 q (.lst xs.reverse))
theorem pe_listRev {e : Expr} {te : TE} {p p2 pos pos2 : Pos} (hc : X.calm = true) (hg : Gl X "list") (hm : X.mg "list" = none) (hg2 : Gl X "reversed") (hm2 : X.mg "reversed" = none) (he : PE X e te)
    (hs : starEach [e] X.env = (false, eval e X.env) :: starEach [] X.env := by rfl)
    (hs2 : starEach [.Call (.Name "reversed" p2) [e] [] pos2] X.env = (false, eval (.Call (.Name "reversed" p2) [e] [] pos2) X.env) :: starEach [] X.env := by rfl) :
    PE X (.Call (.Name "list" p) [.Call (.Name "reversed" p2) [e] [] pos2] [] pos) (tListRev X.K te) := by
  refine ⟨fun pins s σ H Q I h => ?_⟩
  refine Call_ (ld_blt I hg hm (u := .type "list") (by decide +kernel) (PyProof.Rows.callWith_type1 (args_cons (Call_ (ld_blt I hg2 hm2 PyProof.Rows.boot_reversed (PyProof.Rows.callWith_type1 (args_cons (thn (he.run pins s σ H _ I h) fun u s1 ⟨v, H1, I1, r1, q1⟩ => args_nil ?_) hs) hs rfl))) hs2) hs2 rfl) (by decide +kernel) (by decide +kernel))
  obtain ⟨a, xs, ev, hq, q⟩ := q1
  subst ev
  obtain rfl : u = Value.ref a := r1
  obtain ⟨its, rv, p', hz⟩ := I1.list hq
  refine call_reversed_list p'.isList (args_nil ?_)
  have k0 : ∀ b o, s1.heap.get? b = some o → (s1.heap.push (revObj a ((its.toArray.size : Int) - 1))).get? b = some o := fun b o e => Heap.get?_push_of_some _ e
  have I2 : Inv X pins σ H1 { s1 with heap := s1.heap.push (revObj a ((its.toArray.size : Int) - 1)) } := I1.kept (t' := s1.toks) k0
  obtain ⟨f0, f1, f2, f3, f4, f5⟩ := I1.fpOk (H' := H1) (b := s1.heap.objs.size) (Nat.le_refl _) (I1.hok.fresh (Nat.le_refl _))
  have hl := p'.isList
  obtain ⟨ol, hol, _⟩ := id hl
  have hne : a ≠ s1.heap.objs.size := Nat.ne_of_lt (Heap.lt_size hol)
  have hn : its.toArray.size ≤ sizeLine := by rw [List.size_toArray, ← rv.length]; exact hz
  have sz : (s1.heap.push (revObj a ((its.toArray.size : Int) - 1))).objs.size = s1.heap.objs.size + 1 := Heap.size_push _ _
  refine call_list_rev (s := { s1 with heap := s1.heap.push (revObj a ((its.toArray.size : Int) - 1)) }) (I1.ok.hd hc) ⟨_, Heap.get?_push_size _ rfl, rfl, rfl⟩ (hl.push _) hne hn fun h' tk acc c hk hS hi => ?_
  have I3 : Inv X pins σ H1 { s1 with heap := h', toks := tk } := I2.turned (t' := tk) (fun b o hb e => hk b o hb e) f0 f1 f3 f4 f5
  have hnone : H1 (s1.heap.push (revObj a ((its.toArray.size : Int) - 1))).objs.size = none := I1.hok.fresh (by rw [sz]; exact Nat.le_succ _)
  refine ⟨.ref _, upd H1 (s1.heap.push (revObj a ((its.toArray.size : Int) - 1))).objs.size (.lst xs.reverse), ?_, rfl, q _ hnone⟩
  have kp1 : ∀ b o, s1.heap.get? b = some o → h'.get? b = some o := fun b o e => hk b o (Nat.ne_of_lt (Heap.lt_size e)) (k0 b o e)
  refine I1.laid (t' := tk) kp1 (by rw [sz]; exact Nat.le_succ _) (show ObjOk X.prog X.w _ _ _ (.lst xs.reverse) from ⟨by rw [List.length_reverse]; exact hz, acc.toList, c, RT.vals_rev rv hi, ?_⟩)
  rw [Array.toArray_toList]
  exact hS
end
end MR
set_option maxHeartbeats 4000000
/-! Texts in order: one sorted list for each list. -/
namespace MJ
open PySem PySem.Spec
open PyProof.Rows hiding St
def leS (a b : Str) : Bool := decide (¬ b.cps.toList < a.cps.toList)
def srt (xs : List Str) : List Str := xs.mergeSort leS
theorem leS_trans (a b c : Str) (h1 : leS a b = true) (h2 : leS b c = true) : leS a c = true := by
  unfold leS at *
  simp only [decide_eq_true_eq, List.not_lt] at *
  exact List.le_trans h1 h2
theorem leS_total (a b : Str) : (leS a b || leS b a) = true := by
  unfold leS
  rw [Bool.or_eq_true]
  simp only [decide_eq_true_eq, List.not_lt]
  exact List.le_total _ _
theorem leS_anti {a b : Str} (h1 : leS a b = true) (h2 : leS b a = true) : a = b := by
  unfold leS at *
  simp only [decide_eq_true_eq, List.not_lt] at *
  have e := List.le_antisymm h1 h2
  obtain ⟨x⟩ := a
  obtain ⟨y⟩ := b
  have e' : x = y := Array.toList_inj.mp e
  rw [e']
theorem srt_perm (xs : List Str) : (srt xs).Perm xs := List.mergeSort_perm xs leS
theorem srt_mem {xs : List Str} {x : Str} : x ∈ srt xs ↔ x ∈ xs := (srt_perm xs).mem_iff
theorem srt_length (xs : List Str) : (srt xs).length = xs.length := (srt_perm xs).length_eq
theorem srt_nodup {xs : List Str} (h : xs.Nodup) : (srt xs).Nodup := (srt_perm xs).nodup_iff.mpr h
theorem srt_pw (xs : List Str) : (srt xs).Pairwise fun a b => leS a b = true := List.pairwise_mergeSort leS_trans leS_total xs
theorem rising_pw : ∀ (l : List Str) (p : Str), risingS p l = true → (p :: l).Pairwise fun a b => leS a b = true
  | [], p, _ => List.pairwise_singleton _ _
  | x :: r, p, h => by
    have h' : (!ltCps x.cps.toList p.cps.toList && risingS x r) = true := h
    rw [Bool.and_eq_true, Bool.not_eq_true', ltCps_eq] at h'
    have ih := rising_pw r x h'.2
    refine List.pairwise_cons.mpr ⟨fun y hy => ?_, ih⟩
    have hx : leS p x = true := decide_eq_true (of_decide_eq_false h'.1)
    rcases List.mem_cons.mp hy with e | hy
    · rw [e]; exact hx
    · exact leS_trans _ _ _ hx (List.rel_of_pairwise_cons ih hy)
theorem sorted_pw : ∀ {l : List Str}, sortedS l = true → l.Pairwise fun a b => leS a b = true
  | [], _ => .nil
  | x :: r, h => rising_pw r x h
theorem pw_unique : ∀ {l m : List Str}, (l.Pairwise fun a b => leS a b = true) → (m.Pairwise fun a b => leS a b = true) → l.Perm m → l = m
  | [], m, _, _, p => p.nil_eq
  | a :: l, [], _, _, p => absurd p.length_eq (by simp)
  | a :: l, b :: m, h1, h2, p => by
    have e : a = b := by
      rcases List.mem_cons.mp (p.mem_iff.mp List.mem_cons_self) with e | ha
      · exact e
      · rcases List.mem_cons.mp (p.mem_iff.mpr (List.mem_cons_self (a := b) (l := m))) with e | hb
        · exact e.symm
        · exact leS_anti (List.rel_of_pairwise_cons h1 hb) (List.rel_of_pairwise_cons h2 ha)
    subst e
    rw [pw_unique (List.pairwise_cons.mp h1).2 (List.pairwise_cons.mp h2).2 (List.perm_cons _ |>.mp p)]
theorem srt_eq {ys xs : List Str} (p : ys.Perm xs) (h : sortedS ys = true) : ys = srt xs := pw_unique (sorted_pw h) (srt_pw xs) (p.trans (srt_perm xs).symm)
/-- the distinct ones -/
def dst : List Str → List Str
  | [] => []
  | x :: r => if x ∈ dst r then dst r else x :: dst r
theorem dst_mem {x : Str} : ∀ {l : List Str}, x ∈ dst l ↔ x ∈ l
  | [] => Iff.rfl
  | y :: r => by
    unfold dst
    by_cases h : y ∈ dst r
    · rw [if_pos h, dst_mem, List.mem_cons]
      exact ⟨.inr, fun z => z.elim (fun e => e ▸ dst_mem.mp h) id⟩
    · rw [if_neg h, List.mem_cons, List.mem_cons, dst_mem]
theorem dst_nodup : ∀ l : List Str, (dst l).Nodup
  | [] => List.nodup_nil
  | y :: r => by
    unfold dst
    by_cases h : y ∈ dst r
    · rw [if_pos h]; exact dst_nodup r
    · rw [if_neg h]; exact List.nodup_cons.mpr ⟨h, dst_nodup r⟩
theorem dst_le : ∀ l : List Str, (dst l).length ≤ l.length
  | [] => Nat.le_refl _
  | y :: r => by
    unfold dst
    have := dst_le r
    split <;> simp <;> omega
theorem nodup_perm {l m : List Str} (h1 : l.Nodup) (h2 : m.Nodup) (h : ∀ x, x ∈ l ↔ x ∈ m) : l.Perm m := by
  rw [List.perm_ext_iff_of_nodup h1 h2]
  exact h
theorem srt_set {ys xs : List Str} (nd : ys.Nodup) (h : ∀ y, y ∈ ys ↔ y ∈ xs) (s : sortedS ys = true) : ys = srt (dst xs) :=
  srt_eq (nodup_perm nd (dst_nodup xs) fun x => (h x).trans dst_mem.symm) s
end MJ
set_option maxHeartbeats 4000000
/-! Sets of texts: set(a list of texts), sorted of such a set. -/
namespace MR
open PySem PySem.Spec PyProof.Rows L2
def txt (e : Int × Value) : Str := match e.2 with
  | .str x _ => x
  | _ => Str.empty
def TxtE (w : World) (e : Int × Value) : Prop := ∃ x tk, e.2 = Value.str x tk ∧ e.1 = hashStr w x
/-- the set of texts at a: its members are just those of M -/
def TSet (w : World) (h : Heap) (a : Addr) (M : Str → Prop) : Prop :=
  ∃ o es ep t, h.get? a = some o ∧ o.ExactSet ∧ o.data = .set es ep t ∧ (∀ e ∈ es.toList, TxtE w e) ∧ (es.toList.map txt).Nodup ∧ (∀ x, M x ↔ x ∈ es.toList.map txt) ∧
    es.size < 2000 ∧ t.fits es.size = true ∧ Ris t.place.toList ∧ (w.params.followText "set-order" = true ∨ t.led = true)
section
variable {P : Program} {w : World} {A : Around} {E : Value → Shared → Prop} {s : Shared} {a : Addr} {M : Str → Prop}
theorem TSet.stay {h h' : Heap} (R : TSet w h a M) (k : ∀ o, h.get? a = some o → h'.get? a = some o) : TSet w h' a M := by
  obtain ⟨o, es, ep, t, ho, r⟩ := R
  exact ⟨o, es, ep, t, k o ho, r⟩
theorem TSet.iff {h : Heap} {M' : Str → Prop} (R : TSet w h a M) (e : ∀ x, M x ↔ M' x) : TSet w h a M' := by
  obtain ⟨o, es, ep, t, ho, r1, r2, r3, r4, r5, r6⟩ := R
  exact ⟨o, es, ep, t, ho, r1, r2, r3, r4, fun x => (e x).symm.trans (r5 x), r6⟩
theorem txt_elems {l : List (Int × Value)} (g : ∀ e ∈ l, TxtE w e) : ElemsOf (PySem.strKind P w) l := fun e he => by
  obtain ⟨x, tk, h1, h2⟩ := g e he
  exact ⟨⟨x, by rw [h1]; exact strKind_is P w x tk, h2⟩, by rw [h1]; rfl⟩
theorem txt_is {e : Int × Value} (g : TxtE w e) (x : Str) : (PySem.strKind P w).is x e.2 = true ↔ txt e = x := by
  obtain ⟨y, tk, h1, _⟩ := g
  unfold txt
  rw [h1]
  constructor
  · intro q
    have := (PySem.strKind P w).inj _ _ _ q (strKind_is P w y tk)
    exact this.symm
  · intro q
    have q' : y = x := q
    rw [q']; exact strKind_is P w x tk
theorem txt_mem {l : List (Int × Value)} (g : ∀ e ∈ l, TxtE w e) (x : Str) : x ∈ l.map txt ↔ ∃ e ∈ l, (PySem.strKind P w).is x e.2 = true := by
  rw [List.mem_map]
  constructor
  · rintro ⟨e, he, q⟩
    exact ⟨e, he, (txt_is (g e he) x).2 q⟩
  · rintro ⟨e, he, q⟩
    exact ⟨e, he, (txt_is (g e he) x).1 q⟩
theorem bound_4096 {n : Nat} (h : n < 2001) : n < scanBound := by
  unfold scanBound; omega
theorem set_tail {g : Bool → Sem Unit} (hg : ∀ (b : Bool) (s₁ : Shared) (Q' : Unit → Shared → Prop), Q' () s₁ → wpAny (model P w) A (g b) Q' E s₁)
    {o : Obj} {es : Array (Int × Value)} {ep : Nat} {t : SetTable} (ho : s.heap.get? a = some o) (hex : o.ExactSet) (hd : o.data = .set es ep t)
    {es1 : Array (Int × Value)} {t2 : SetTable} {M' : Str → Prop} (g1 : ∀ e ∈ es1.toList, TxtE w e) (nd1 : (es1.toList.map txt).Nodup) (m1 : ∀ x, M' x ↔ x ∈ es1.toList.map txt)
    (hb1 : es1.size < 2000) (hf2 : t2.fits es1.size = true) (hr : Ris t2.place.toList) (hl : w.params.followText "set-order" = true ∨ t2.led = true) {dummy : Bool} {R : Option Bool → Shared → Prop}
    (hR : ∀ h', Heap.SameBut a s.heap h' → TSet w h' a M' → R (some true) { s with heap := h' }) :
    wpAny (model P w) A (do
        storeSet a es1 t2
        if (!dummy && t2.tooFull) = true then do
            g (relayAll t2 es1 (SetTable.grown es1.size)).2.2
            storeSet a (relayAll t2 es1 (SetTable.grown es1.size)).1 (relayAll t2 es1 (SetTable.grown es1.size)).2.1
            pure (some true)
          else pure (some true)) R E s := by
  have fitLine : ∀ {n : Nat}, n < 2000 → n ≤ sizeLine := fun {n} h => by rw [sizeLine_eq]; omega
  refine wpAny_bind (wpAny_storeSet_of ho hd ?_ (fitLine hb1))
  have at1 := store_at (es' := es1) (t' := t2) ho hd
  have sb := Heap.SameBut.update s.heap a (Obj.putSet es1 t2)
  by_cases full : (!dummy && t2.tooFull) = true
  · rw [if_pos full]
    have pm := relayAll_perm t2 es1 (SetTable.grown es1.size)
    have f3 := relayAll_fits t2 es1 (SetTable.grown es1.size)
    have r3 := relayAll_ris t2 es1 (SetTable.grown es1.size)
    have l3 := relayAll_led t2 es1 (SetTable.grown es1.size)
    generalize relayAll t2 es1 (SetTable.grown es1.size) = Z at pm f3 r3 l3 ⊢
    obtain ⟨es2, t3, gave⟩ := Z
    dsimp only at pm f3 r3 l3 ⊢
    have sz : es2.size = es1.size := by rw [← Array.length_toList, pm.length_eq, Array.length_toList]
    refine wpAny_bind (hg _ _ _ ?_)
    refine wpAny_bind (wpAny_storeSet_of at1 rfl ?_ (fitLine (by rw [sz]; exact hb1)))
    have at2 := store_at (es' := es2) (t' := t3) at1 rfl
    refine wpAny_pure (hR _ (sb.trans (Heap.SameBut.update _ a _)) ⟨_, es2, _, t3, at2, hex, rfl, fun e he => g1 e (pm.mem_iff.mp he), (pm.map txt).nodup_iff.mpr nd1, fun x => (m1 x).trans (pm.map txt).mem_iff.symm, by rw [sz]; exact hb1, f3, r3, ?_⟩)
    rw [l3]; exact hl
  · rw [if_neg full]
    exact wpAny_pure (hR _ sb ⟨_, es1, _, t2, at1, hex, rfl, g1, nd1, m1, hb1, hf2, hr, hl⟩)
theorem set_add_hashed {x : Str} {tk : Tok} {n : Nat} {Q : Bool → Shared → Prop} (R : TSet w s.heap a M) (hn : ∀ o es ep t, s.heap.get? a = some o → o.data = .set es ep t → es.size ≤ n) (room : n < 1000)
    (hQ : ∀ b h', Heap.SameBut a s.heap h' → TSet w h' a (fun y => M y ∨ y = x) → (∀ o es ep t, h'.get? a = some o → o.data = .set es ep t → es.size ≤ n + 1) → Q b { s with heap := h' }) :
    wpAny (model P w) A (setAddHashed a (.str x tk) ((PySem.strKind P w).hash x)) Q E s := by
  obtain ⟨o, es, ep, t, ho, hex, hd, g, nd, hm, hb, hf, hr, hl⟩ := R
  have hes := hn o es ep t ho hd
  have isx : (PySem.strKind P w).is x (.str x tk) = true := strKind_is P w x tk
  have scx : (Value.str x tk).scannable = true := rfl
  have hel : ElemsOf (PySem.strKind P w) es.toList := txt_elems g
  unfold setAddHashed setAddHashedIn
  refine wpAny_holding (wpAny_bind (wpAny_setState_of ho hd hf ?_))
  dsimp only
  rw [byScan_of scx (bound_4096 (by omega)) hel]
  simp only [↓reduceIte]
  unfold setAddByScan
  refine wpAny_bind (wpAny_bind (wpAny_rule ?_))
  refine wpAny_bind (wpAny_setScan_of isx ho hd hf hel ?_)
  cases hfi : List.findIdx? (fun e => (PySem.strKind P w).is x e.2) es.toList with
  | some j =>
    dsimp only
    obtain ⟨hj, pj, _⟩ := List.findIdx?_eq_some_iff_getElem.mp hfi
    have hMx : M x := (hm x).2 ((txt_mem (P := P) (w := w) g x).2 ⟨es.toList[j], List.getElem_mem hj, pj⟩)
    refine wpAny_pure (wpAny_pure (hQ _ s.heap (Heap.SameBut.refl a s.heap) ⟨o, es, ep, t, ho, hex, hd, g, nd, fun y => ?_, hb, hf, hr, hl⟩ fun o' es' ep' t' ho' hd' => ?_))
    · rw [← hm y]
      exact ⟨fun z => z.elim id fun e => e ▸ hMx, .inl⟩
    · have := hn o' es' ep' t' ho' hd'; omega
  | none =>
    dsimp only
    have notIn : x ∉ es.toList.map txt := fun z => by
      obtain ⟨e, he, q⟩ := (txt_mem (P := P) (w := w) g x).1 z
      have c := List.findIdx?_eq_none_iff.mp hfi e he
      rw [q] at c
      cases c
    have gave_way : ∀ (b : Bool) {s₁ : Shared} {Q' : Unit → Shared → Prop}, Q' () s₁ → wpAny (model P w) A (match b with | true => rule "set.scan.the-table-gave-way" | false => pure ()) Q' E s₁ :=
      fun b s₁ Q' q => by cases b <;> first | exact wpAny_pure q | exact wpAny_rule q
    have pm := layNew_perm t es ((PySem.strKind P w).hash x) (.str x tk)
    have f1 := layNew_fits t es ((PySem.strKind P w).hash x) (.str x tk)
    have r1 := layNew_ris t es ((PySem.strKind P w).hash x) (.str x tk) hr
    have l1 := layNew_led t es ((PySem.strKind P w).hash x) (.str x tk)
    generalize layNew t es ((PySem.strKind P w).hash x) (.str x tk) = Z at pm f1 r1 l1 ⊢
    obtain ⟨es1, t1, was, gave⟩ := Z
    dsimp only at pm f1 r1 l1 ⊢
    rw [Array.toList_push] at pm
    have pc : es1.toList.Perm (((PySem.strKind P w).hash x, Value.str x tk) :: es.toList) := pm.trans (List.perm_append_singleton _ _)
    have pk : (es1.toList.map txt).Perm (x :: es.toList.map txt) := pc.map txt
    have g1 : ∀ e ∈ es1.toList, TxtE w e := fun e he => by
      rcases List.mem_cons.mp (pc.mem_iff.mp he) with z | z
      · rw [z]; exact ⟨x, tk, rfl, rfl⟩
      · exact g e z
    have nd1 : (es1.toList.map txt).Nodup := pk.nodup_iff.mpr (List.nodup_cons.mpr ⟨notIn, nd⟩)
    have m1 : ∀ y, (M y ∨ y = x) ↔ y ∈ es1.toList.map txt := fun y => by
      rw [hm y, pk.mem_iff, List.mem_cons]
      exact Or.comm
    have sz : es1.size = es.size + 1 := by rw [← Array.length_toList, pc.length_eq, List.length_cons, Array.length_toList]
    have hb1 : es1.size < 2000 := by omega
    have led1 : w.params.followText "set-order" = true ∨ t1.led = true := by rw [l1]; exact hl
    have fin : ∀ h', Heap.SameBut a s.heap h' → (TSet w h' a (fun y => M y ∨ y = x) ∧ ∀ o es ep t, h'.get? a = some o → o.data = .set es ep t → es.size ≤ n + 1) → Q true { s with heap := h' } := fun h' sb ⟨r, z⟩ => hQ true h' sb r z
    have cnt : ∀ h', TSet w h' a (fun y => M y ∨ y = x) → ∀ o es' ep t, h'.get? a = some o → o.data = .set es' ep t → es'.size ≤ n + 1 := fun h' r o' es' ep' t' ho' hd' => by
      obtain ⟨o2, es2, ep2, t2, ho2, _, hd2, _, nd2, m2, _⟩ := r
      rw [ho'] at ho2; cases ho2
      rw [hd'] at hd2; cases hd2
      have p2 : (es'.toList.map txt).Perm (es1.toList.map txt) := (List.perm_ext_iff_of_nodup nd2 nd1).mpr fun y => (m2 y).symm.trans (m1 y)
      have := p2.length_eq
      rw [List.length_map, List.length_map, Array.length_toList, Array.length_toList] at this
      omega
    refine wpAny_bind (gave_way _ ?_)
    split
    · refine wpAny_bind ?_
      rw [hashByValue_scannable 8 scx]
      refine wpAny_pure ?_
      refine set_tail ?_ ho hex hd g1 nd1 m1 hb1 ?_ ?_ ?_ ?_
      · intro b s₁ Q' q; cases b <;> first | exact wpAny_pure q | exact wpAny_rule q
      · first | (split <;> first | exact f1 | exact SetTable.fits_plain_off f1) | exact f1
      · first | (split <;> exact r1) | exact r1
      · first | (split <;> exact led1) | exact led1
      · intro h' sb r; dsimp only; exact wpAny_pure (fin h' sb ⟨r, cnt h' r⟩)
    · refine wpAny_bind (wpAny_pure ?_)
      simp only [↓reduceIte]
      refine set_tail ?_ ho hex hd g1 nd1 m1 hb1 f1 r1 led1 ?_
      · intro b s₁ Q' q; cases b <;> first | exact wpAny_pure q | exact wpAny_rule q
      · intro h' sb r; dsimp only; exact wpAny_pure (fin h' sb ⟨r, cnt h' r⟩)
end
/-- set.update's loop over texts -/
theorem set_loop {prog : Program} {w : World} {A : Around} {R : Result → Shared → Prop} {I : Addr} {fp wr : List Addr} {G : Array GenState → Array GenState → Prop} {n : Nat} {PV : Nat → Value → Prop} {St : Nat → Shared → Prop}
    (W : WalksS prog w A.in1 I fp wr G n PV St) (S : Addr) (hSf : S ∉ fp) (xs : List Str) (hsz : xs.length = n) (h64 : n < 500) (hval : ∀ i v, PV i v → ∃ t, v = .str (xs.getD i Str.empty) t) :
    ∀ (k i : Nat) (s : Shared), n - i = k → i ≤ n → St i s → TSet w s.heap S (fun y => y ∈ xs.take i) → (∀ o es ep t, s.heap.get? S = some o → o.data = .set es ep t → es.size ≤ i) →
      (∀ s', Moved (S :: wr) G s s' → TSet w s'.heap S (fun y => y ∈ xs) → R (.ok (.ret .none)) s') →
      codeAny (model prog w) A (.builtin "set.update.loop" ⟨[.ref S, .ref I], []⟩) R s := by
  have hSw : S ∉ wr := fun h => hSf (W.sub _ h)
  have sub : ∀ b ∈ wr, b ∈ S :: wr := fun b hb => List.mem_cons_of_mem _ hb
  intro k
  induction k with
  | zero =>
    intro i s hk hi hst hS hc hR
    obtain rfl : i = n := by omega
    refine codeAny_builtin PyProof.Rows.F.entry_set_update_loop ?_
    rw [Around.under_plainId PyProof.Rows.F.plain_set_update_loop _]
    show wpAny _ A.in1 (pyNext (.ref I) >>= _) _ _ s
    refine wpAny_bind (W.done s _ _ hst fun s' hm => ?_)
    show wpAny _ A.in1 (ret Value.none) _ _ s'
    refine wpAny_pure (hR s' (hm.mono sub) ((hS.stay fun o ho => hm.heap S o hSw ho).iff fun y => ?_))
    rw [← hsz, List.take_length]
  | succ k ih =>
    intro i s hk hi hst hS hc hR
    have hlt : i < n := by omega
    refine codeAny_builtin PyProof.Rows.F.entry_set_update_loop ?_
    rw [Around.under_plainId PyProof.Rows.F.plain_set_update_loop _]
    show wpAny _ A.in1 (pyNext (.ref I) >>= _) _ _ s
    refine wpAny_bind (W.item i s _ _ hlt hst fun v s' hP hst' hm => ?_)
    obtain ⟨t, rfl⟩ := hval i v hP
    have keepS : ∀ o, s.heap.get? S = some o → s'.heap.get? S = some o := fun o ho => hm.heap S o hSw ho
    have hS' := hS.stay keepS
    have hc' : ∀ o es ep t, s'.heap.get? S = some o → o.data = .set es ep t → es.size ≤ i := fun o es ep t ho hd => by
      obtain ⟨o2, _, _, _, ho2, _⟩ := hS
      have := keepS o2 ho2
      rw [ho] at this; cases this
      exact hc o es ep t ho2 hd
    show wpAny _ A.in1 (holding [Value.str (xs.getD i Str.empty) t] (setAdd S (.str (xs.getD i Str.empty) t)) >>= _) _ _ s'
    refine wpAny_bind (wpAny_holding ?_)
    unfold setAdd
    refine wpAny_holding (wpAny_bind ((PySem.strKind prog w).pyHash (k := xs.getD i Str.empty) (strKind_is _ _ _ _) ?_))
    refine set_add_hashed (s := { s' with toks := s'.toks + 1 }) (n := i) hS' hc' (by omega) fun b h' hsb hS2 hc2 => ?_
    have hx : xs[i]? = some (xs.getD i Str.empty) := by
      have hl : i < xs.length := by omega
      rw [List.getD_eq_getElem?_getD, List.getElem?_eq_getElem hl]; rfl
    have hS3 : TSet w h' S (fun y => y ∈ xs.take (i + 1)) := hS2.iff fun y => by
      rw [List.take_add_one, hx, List.mem_append]
      simp
    refine wpAny_pure ⟨plainId_quiet PyProof.Rows.F.plain_set_update_loop _, ih (i + 1) _ (by omega) hlt (W.frame _ s' _ _ hst' (Nat.le_succ _) fun b hb o e => ?_) hS3 hc2 fun s'' hm'' hS'' => ?_⟩
    · rw [hsb.2 b (fun z : b = S => hSf (by rw [← z]; exact hb))]; exact e
    · refine hR s'' (Moved.trans W.gtrans ((hm.mono sub).then_heap (Nat.le_succ _) fun b o hb e => ?_) hm'') hS''
      rw [hsb.2 b (fun z : b = S => hb (by rw [z]; exact List.mem_cons_self))]; exact e
end MR
set_option maxHeartbeats 4000000
namespace MR
open PySem PySem.Spec PyProof.Rows L2
section
variable {P : Program} {w : World} {A : Around} {E : Value → Shared → Prop} {s : Shared}
abbrev newSet (w : World) : Obj := { cls := .type "set", dict := none, data := .set #[] 0 (.fresh 0 0 (!w.params.followText "set-order")) }
theorem tset_new {h : Heap} {a : Addr} (w : World) (e : h.get? a = some (newSet w)) : TSet w h a (fun _ => False) := by
  refine ⟨_, #[], 0, _, e, ⟨rfl, rfl, rfl⟩, rfl, (fun e he => by simp at he), (by simp), (fun k => by simp), (by decide), (by rfl), List.Pairwise.nil, ?_⟩
  cases w.params.followText "set-order"
  · exact .inr rfl
  · exact .inl rfl
theorem call_set_texts {l : Addr} {items : Array Value} {xs : List Str} {Q : Value → Shared → Prop} (hh : A.handled = none) (hl : s.heap.IsList l items) (hi : StrsAre items.toList xs) (h64 : xs.length < 500)
    (q : ∀ (h' : Heap) (tk : Nat), TSet w h' s.heap.objs.size (fun y => y ∈ xs) → (∀ b o, s.heap.get? b = some o → h'.get? b = some o) → Q (.ref s.heap.objs.size) { s with heap := h', toks := tk }) :
    wpAny (model P w) A (call (.type "set") [.ref l]) Q E s := by
  have isz : xs.length = items.size := by rw [← StrsAre.len_eq hi, Array.length_toList]
  obtain ⟨c, tl, hmro⟩ := PySem.F.called_set.mro
  have hmade := PySem.F.called_set.made
  have hsub := PySem.F.called_set.sub
  refine wpAny_call (codeAny_of_tree ?_)
  show wpAny _ _ (callAny (.type "set") _) _ _ _
  refine wpAny_pure ⟨Code.quiet_builtin _ (by decide +kernel), codeAny_builtin PySem.F.entry_type_call ?_⟩
  rw [Around.under_plain (weight_type_call_type "set" [.ref l] []) rfl]
  have h1 := PySem.F.called_set.notType
  have h2 := PySem.F.called_set.canCreate
  have hct := PySem.F.typeCall_set_1 (.ref l)
  repeat (any_goals (first | assumption | wp_step))
  refine codeAny_mono (code_set_led1 (.ref l) (E := E) (Q₁ := fun obj s₁ => obj = .ref s.heap.objs.size ∧ s₁ = { s with heap := s.heap.push (newSet w) }) ⟨rfl, rfl⟩) fun r s₁ hr => ?_
  cases r with
  | error e => exact hr
  | ok fl =>
    cases fl with
    | ret obj =>
      obtain ⟨rfl, rfl⟩ := hr
      have atS : (s.heap.push (newSet w)).get? s.heap.objs.size = some (newSet w) := Heap.get?_push_size _ rfl
      have tyS : Shared.TypeIs { s with heap := s.heap.push (newSet w) } (.ref s.heap.objs.size) "set" := ⟨_, atS, rfl⟩
      have hli := PySem.F.called_set.init.lookup
      have hbi := PySem.F.called_set.init.bind (.ref s.heap.objs.size)
      repeat (any_goals (first | assumption | wp_step))
      refine codeAny_mono (codeAny_call_builtin (R := wants (fun r s₂ => r = .none ∧ ∃ h' tk, s₂ = { s with heap := h', toks := tk } ∧ TSet w h' s.heap.objs.size (fun y => y ∈ xs) ∧ (∀ b o, s.heap.get? b = some o → h'.get? b = some o)) E)
        PySem.F.called_set.init.plain PySem.F.entry_set_init (check_set_init_1 tyS ?_)) fun r₂ s₂ hr₂ => ?_
      · obtain ⟨⟨ocls, odict, odata, oslots⟩, hol, hcl, nl, hdl⟩ := hl
        simp only at hcl hdl
        subst hcl; subst hdl
        have hol' : (s.heap.push (newSet w)).get? l = some { cls := .type "list", dict := odict, data := .seq items nl, slots := oslots } := Heap.get?_push_of_some _ hol
        have hsls := PySem.F.sub_list_set
        have hslf := PySem.F.sub_list_frozenset
        have hne : (Value.type "list" == Value.type "dict") = false := by decide
        have hl1 : (s.heap.push (newSet w)).IsList l items := ⟨_, hol', rfl, nl, rfl⟩
        unfold Builtin.«set.__init__» noKeywords Builtin.Frozenset.updateFrom
        generalize hPI : pyIter = PI
        wp_walk
        subst hPI
        refine wpAny_pyIter_list hl1 ?_
        refine wpAny_bind (wpAny_runValue ?_)
        have hlS : l < s.heap.objs.size := Heap.lt_size hol
        have hh3 : A.in1.in1.in1.handled = none := by simp [hh]
        have sz1 : (s.heap.push (newSet w)).objs.size = s.heap.objs.size + 1 := Heap.size_push _ _
        have hneI : l ≠ (s.heap.push (newSet w)).objs.size := by rw [sz1]; exact Nat.ne_of_lt (Nat.lt_succ_of_lt hlS)
        have hSf : s.heap.objs.size ∉ [(s.heap.push (newSet w)).objs.size, l] := by
          rw [sz1]; simp only [List.mem_cons, List.not_mem_nil, or_false, not_or]
          exact ⟨Nat.ne_of_lt (Nat.lt_succ_self _), Nat.ne_of_gt hlS⟩
        have hval : ∀ (i : Nat) (v : Value), items[i]? = some v → ∃ t, v = .str (xs.getD i Str.empty) t := fun i v hv => SS.strs_at hi i v (by rw [Array.getElem?_toList]; exact hv)
        have atS2 : ((s.heap.push (newSet w)).push { cls := .type "list_iterator", data := .fields #[.ref l, .int 0 0] }).get? s.heap.objs.size = some (newSet w) := Heap.get?_push_of_some _ atS
        refine set_loop ((Walks.list hh3 _ l hneI items).toS) s.heap.objs.size hSf xs isz (by rw [← isz]; exact h64) hval (items.size - 0) 0 _ (by omega) (Nat.zero_le _)
          ⟨⟨_, Heap.get?_push_size _ rfl, rfl, rfl⟩, (hl1.push _)⟩ ((tset_new w atS2).iff fun y => by simp) (fun o es ep t ho hd => ?_) fun s' hm hS' => ?_
        · have ho' : ((s.heap.push (newSet w)).push { cls := .type "list_iterator", data := .fields #[.ref l, .int 0 0] }).get? s.heap.objs.size = some o := ho
          rw [atS2] at ho'; cases ho'
          cases hd
          exact Nat.le_refl _
        · obtain ⟨h', g2, d', tk', os'⟩ := s'
          have eg : g2 = s.gens := hm.gens
          have ed : d' = s.drawn := hm.drawn
          have eo : os' = s.os := hm.os
          subst eg; subst ed; subst eo
          show wpAny _ _ _ _ _ _
          refine wpAny_pure ?_
          show wpAny _ _ (ret Value.none) _ _ _
          refine wpAny_pure ⟨rfl, h', tk', rfl, hS', fun b o e => ?_⟩
          have hb0 : b < s.heap.objs.size := Heap.lt_size e
          refine hm.heap b o (fun z => ?_) (Heap.get?_push_of_some _ (Heap.get?_push_of_some _ e))
          rcases List.mem_cons.mp z with z | z
          · exact absurd hb0 (by rw [z]; exact Nat.lt_irrefl _)
          · have z := List.mem_singleton.mp z
            rw [z] at hb0
            have : (s.heap.push (newSet w)).objs.size < s.heap.objs.size := hb0
            rw [sz1] at this; omega
      · cases r₂ with
        | error e => exact hr₂
        | ok fl₂ =>
          cases fl₂ with
          | ret r =>
            obtain ⟨rfl, h', tk, rfl, hS', hk'⟩ := hr₂
            repeat (any_goals (first | assumption | wp_step))
            exact q _ _ hS' hk'
          | _ => exact hr₂.elim
    | _ => exact hr.elim
end
/-- the set of texts at a, as an object that is tracked -/
def TSetO (w : World) (a : Addr) (M : Str → Prop) : HO := .ext fun h => TSet w h a M
section
variable {X : Cx}
theorem tset_ok {w : World} {P : Program} {H : Hp} {h : Heap} {a : Addr} {M : Str → Prop} (R : TSet w h a M) : ObjOk P w H h a (TSetO w a M) := by
  have ⟨o, _, _, _, ho, _⟩ := R
  exact ⟨R, ⟨o, ho⟩, fun h1 h2 p k => TSet.stay p k⟩
/-- set(xs), a list of texts -/
def rSetTx (K : PySem.W.Frag) (w : World) : List V → Hp → VK → Prop := fun vs H Q => ∃ (a : Addr) (xs : List Str), vs = [V.ref a] ∧ SqL K H a (xs.map V.str) ∧ xs.length < 500 ∧ ∀ p, H p = none → Q (.ref p) (upd H p (TSetO w p fun y => y ∈ xs))
theorem cr_setTx (hc : X.calm = true) : CallR X (.type "set") (rSetTx X.K X.w) := by
  intro pins s σ H vs us Q I r h
  obtain ⟨a, xs, rfl, hs, h64, q⟩ := h
  rw [Vals.ref1 r]
  obtain ⟨its, rv, p, hz⟩ := I.list hs
  refine call_set_texts (I.ok.hd hc) p.isList (by simpa using rv.strs) h64 fun h' tk hS hk => ?_
  have hn : H s.heap.objs.size = none := I.hok.fresh (Nat.le_refl _)
  exact ⟨.ref _, upd H s.heap.objs.size (TSetO X.w s.heap.objs.size fun y => y ∈ xs), I.laid (t' := tk) hk (Nat.le_refl _) (tset_ok hS), rfl, q _ hn⟩
/-- sorted of a set of texts, fewer than 64 -/
def rSortSet (w : World) : List V → Hp → VK → Prop := fun vs H Q => ∃ (a : Addr) (M : Str → Prop), vs = [V.ref a] ∧ H a = some (TSetO w a M) ∧ (∃ l : List Str, l.length < 64 ∧ ∀ y, M y → y ∈ l) ∧
  ∀ (ys : List Str) (p : Addr), ys.Nodup → (∀ y, y ∈ ys ↔ M y) → sortedS ys = true → H p = none → Q (.ref p) (upd H p (.lst (ys.map V.str)))
theorem len_sub {α : Type} [DecidableEq α] : ∀ {l k : List α}, l.Nodup → (∀ a ∈ l, a ∈ k) → l.length ≤ k.length
  | [], _, _, _ => Nat.zero_le _
  | a :: l, k, h, hs => by
    obtain ⟨h1, h2⟩ := List.nodup_cons.mp h
    have hk := hs a List.mem_cons_self
    have := len_sub (l := l) (k := k.erase a) h2 fun b hb => (List.mem_erase_of_ne (fun e : b = a => h1 (by rw [← e]; exact hb))).mpr (hs b (List.mem_cons_of_mem _ hb))
    rw [List.length_erase_of_mem hk] at this
    have : 0 < k.length := List.length_pos_of_mem hk
    rw [List.length_cons]
    omega
theorem cr_sortSet (hc : X.calm = true) : CallR X (.builtin "sorted") (rSortSet X.w) := by
  intro pins s σ H vs us Q I r h
  obtain ⟨a, M, rfl, ha, ⟨l, hl64, hlM⟩, q⟩ := h
  rw [Vals.ref1 r]
  have R : TSet X.w s.heap a M := (I.hok a _ ha).1
  obtain ⟨o, es, ep, t, ho, hex, hd, g, nd, hm, hb, hf, hr, hl⟩ := R
  have hlen : (es.toList.map txt).length < 64 := Nat.lt_of_le_of_lt (len_sub nd fun y hy => hlM y ((hm y).2 hy)) hl64
  have areS : ∀ (vs : List Value), (∀ v ∈ vs, ∃ e ∈ es.toList, e.2 = v) → StrsAre vs (vs.map fun v => match v with | .str x _ => x | _ => Str.empty) := by
    intro vs
    induction vs with
    | nil => intro _; exact .nil
    | cons v vs ih =>
      intro hv
      obtain ⟨e, he, e2⟩ := hv v List.mem_cons_self
      obtain ⟨x, tk, h1, _⟩ := g e he
      rw [e2] at h1
      subst h1
      exact .cons _ tk (ih fun u hu => hv u (List.mem_cons_of_mem _ hu))
  refine wpAny_mono (Q := EP X pins σ fun v H' => Q v H') ?_ (fun _ _ z => z) fun _ _ z => z
  -- gather the members, then sort them
  have key : ∀ out : List Value, out.Perm (es.toList.map (·.2)) → ∃ ks : List Str, StrsAre out ks ∧ ks.Perm (es.toList.map txt) := fun out hp => by
    refine ⟨_, areS out fun v hv => ?_, ?_⟩
    · obtain ⟨e, he, e2⟩ := List.mem_map.mp (hp.mem_iff.mp hv)
      exact ⟨e, he, e2⟩
    · have := hp.map (fun v : Value => match v with | .str x _ => x | _ => Str.empty)
      rw [List.map_map] at this
      exact this
  refine Calls.call_function_entry PyProof.Rows.kind_sorted PyProof.Rows.plain_sorted PyProof.Rows.entry_sorted (PyProof.Rows.args_sorted1 _) ?_
  unfold Builtin.«sorted»
  refine wpAny_bind (m := checkCount "sorted" 1 1 _) (wpAny_pure ?_)
  refine wpAny_bind (collect_set (A := X.A.in1) (I.ok.hd hc) ⟨o, ho, hex.1, hd⟩ hf (bound_4096 (by omega)) hr hl fun s1 out hk hz hg hos hp => ?_)
  obtain ⟨ks, hS, hpk⟩ := key out hp
  have hal : out.length = ks.length := PyProof.Rows.StrsAre.len_eq hS
  have h64 : ks.length < 64 := by rw [hpk.length_eq]; exact hlen
  have I1 : Inv X pins σ H s1 := I.call' (ch := []) hos (Un.kept hk) (I.hok.kept hk) (by rw [hg]; exact I.bare) (fun _ z => nomatch z)
  refine wpAny_bind (wpAny_newList ?_ (by rw [hal, sizeLine_eq]; omega))
  have at1 : (s1.heap.push (seqObj "list" out.toArray 0)).get? s1.heap.objs.size = some (seqObj "list" out.toArray 0) := Heap.get?_push_size _ rfl
  refine wpAny_bind (wpAny_holding (wpAny_call_entry PyProof.Rows.slot_list_sort ⟨_, at1, rfl⟩ PyProof.Rows.entry_list_sort
    (list_sort_treeK strKind_oneLt at1 hS.keysOf (fun v₁ v₂ rest e => keyKind_strs (by rw [← e]; exact hS)) (by rw [hal]; exact h64) fun st' hp2 hs => ⟨_, rfl, ?_⟩) (PyProof.Rows.args_list_sort _)))
  obtain ⟨ys, g1, g2, g3⟩ := sorted_out_str hS hp2 hs
  obtain ⟨e', he'⟩ := PyProof.Rows.sortedHeap_at (vs := out) (out := (arrOf st').map (·.2)) at1
  have hyl : (ys.map V.str).length ≤ sizeLine := by rw [List.length_map, g2.length_eq, sizeLine_eq]; omega
  have pn := g2.trans hpk
  refine wpAny_pure ⟨_, rfl, .ref s1.heap.objs.size, upd H s1.heap.objs.size (.lst (ys.map V.str)), I1.laid (t' := s1.toks) (fun b u e => ?_) (Nat.le_refl _)
    (show ObjOk X.prog X.w _ _ _ (.lst (ys.map V.str)) from ⟨hyl, ((arrOf st').map (·.2)).toList, e', vals_of_strs g1, by rw [Array.toArray_toList]; exact he'⟩), rfl, q ys _ (pn.nodup_iff.mpr nd) (fun y => by rw [pn.mem_iff, ← hm y]) g3 (I1.hok.fresh (Nat.le_refl _))⟩
  have hb : b < s1.heap.objs.size := Heap.lt_size e
  rw [PyProof.Rows.sortedHeap_old (Nat.ne_of_lt hb) (by rw [Heap.size_push]; exact Nat.lt_succ_of_lt hb)]
  exact Heap.get?_push_of_some _ e
end
end MR
set_option maxHeartbeats 4000000
/-! Typed judgements of my own over the rules of the hand layer: values by types, a core heap that only grows, owned objects that change. -/
namespace MJ
open PySem PySem.Spec PyProof.Rows L2

/-! ### types -/
structure Ty where
  r : V → Hp → Prop
  mono : ∀ {v : V} {H H' : Hp}, Same H H' → r v H → r v H'
structure Con where
  r : HO → Hp → Prop
  mono : ∀ {o : HO} {H H' : Hp}, Same H H' → r o H → r o H'
abbrev Als (Ts : List Ty) (vs : List V) (H : Hp) : Prop := Paired (fun (T : Ty) v => T.r v H) Ts vs
theorem Als.mono {Ts : List Ty} {vs : List V} {H H' : Hp} (s : Same H H') (h : Als Ts vs H) : Als Ts vs H' := Paired.mapP h fun T _ q => T.mono s q
abbrev Fls (fs : List (Str × Ty)) (vs : List (Str × V)) (H : Hp) : Prop := Paired (fun (p : Str × Ty) (q : Str × V) => q.1 = p.1 ∧ p.2.r q.2 H) fs vs
abbrev Kvs (fs : List (Str × Ty)) (vs : List (Key × V)) (H : Hp) : Prop := Paired (fun (p : Str × Ty) (q : Key × V) => q.1 = Sum.inr p.1 ∧ p.2.r q.2 H) fs vs
def tyV (v : V) : Ty := ⟨fun x _ => x = v, fun _ h => h⟩
abbrev tyI (i : Int) : Ty := tyV (.int i)
abbrev tyB (b : Bool) : Ty := tyV (.bl b)
abbrev tyS (x : Str) : Ty := tyV (.str x)
abbrev tyN : Ty := tyV .non
abbrev tyP (p : Addr) : Ty := tyV (.ref p)
def tyObj (K : Con) : Ty := ⟨fun x H => ∃ a o, x = .ref a ∧ H a = some o ∧ K.r o H, fun s ⟨a, o, e, h, k⟩ => ⟨a, o, e, s a o h, K.mono s k⟩⟩
def tyEx {α : Type} (P : α → Prop) (R : α → Ty) : Ty := ⟨fun x H => ∃ a, P a ∧ (R a).r x H, fun s ⟨a, p, h⟩ => ⟨a, p, (R a).mono s h⟩⟩
def cLst (Ts : List Ty) : Con := ⟨fun o C => ∃ vs, o = .lst vs ∧ Als Ts vs C, fun s ⟨vs, e, h⟩ => ⟨vs, e, h.mono s⟩⟩
def cTup (Ts : List Ty) : Con := ⟨fun o C => ∃ vs, o = .tup vs ∧ Als Ts vs C, fun s ⟨vs, e, h⟩ => ⟨vs, e, h.mono s⟩⟩
def cD (fs : List (Str × Ty)) : Con := ⟨fun o C => ∃ ks, o = .dK ks ∧ Kvs fs ks C, fun s ⟨vs, e, h⟩ => ⟨vs, e, Paired.mapP h fun p _ q => ⟨q.1, p.2.mono s q.2⟩⟩⟩
def cIns (Cl : Addr) (fs : List (Str × Ty)) : Con := ⟨fun o C => ∃ dx vs, o = .ins Cl dx vs ∧ Fls fs vs C, fun s ⟨dx, vs, e, h⟩ => ⟨dx, vs, e, Paired.mapP h fun p _ q => ⟨q.1, p.2.mono s q.2⟩⟩⟩
def cEx {α : Type} (P : α → Prop) (R : α → Con) : Con := ⟨fun x H => ∃ a, P a ∧ (R a).r x H, fun s ⟨a, p, h⟩ => ⟨a, p, (R a).mono s h⟩⟩
abbrev tyLst (Ts : List Ty) : Ty := tyObj (cLst Ts)
abbrev tyTup (Ts : List Ty) : Ty := tyObj (cTup Ts)
abbrev tyD (fs : List (Str × Ty)) : Ty := tyObj (cD fs)
abbrev tyO (Cl : Addr) (fs : List (Str × Ty)) : Ty := tyObj (cIns Cl fs)
def tySh (Cl : Addr) (q : Rat) : Ty := tyO Cl [("over", tyI q.num), ("under", tyI q.den)]
def Flat (T : Ty) : Prop := ∀ v H H', T.r v H → T.r v H'
def FlatC (K : Con) : Prop := ∀ o H H', K.r o H → K.r o H'
theorem flatV (v : V) : Flat (tyV v) := fun _ _ _ h => h

/-! ### heaps: the core below the heap, the frame, the owned -/
def At1 (H : Hp) (a : Addr) (o : HO) : Prop := H a = some o ∨ ∃ ob ks, o = .dK ks ∧ H a = some (.frz ob o)
def Bel (C H : Hp) : Prop := ∀ a o, C a = some o → At1 H a o
structure Bs where
  c : Hp
  g : Hp
abbrev Wl := List (Addr × Con)
structure Ent (B : Bs) (C : Hp) (W : Wl) (G H : Hp) : Prop where
  gh : Same G H
  ch : Bel C H
  cc : Same B.c C
  dj : ∀ a o o', C a = some o → G a = some o' → B.c a = some o
  g0 : Same B.g G
  nd : (W.map (·.1)).Nodup
  ow : ∀ q ∈ W, B.g q.1 = none ∧ C q.1 = none ∧ ∃ o, G q.1 = some o ∧ Mut (some o) ∧ q.2.r o C
def EntE (B : Bs) (C : Hp) (W : Wl) (H : Hp) : Prop := ∃ G, Ent B C W G H
theorem At1.some {H : Hp} {a : Addr} {o : HO} (h : At1 H a o) : H a ≠ none := by
  rcases h with h | ⟨ob, ks, _, h⟩ <;> (rw [h]; exact fun z => nomatch z)
theorem At1.mono {H H' : Hp} {a : Addr} {o : HO} (s : Same H H') (h : At1 H a o) : At1 H' a o := by
  rcases h with h | ⟨ob, ks, e, h⟩
  · exact .inl (s a _ h)
  · exact .inr ⟨ob, ks, e, s a _ h⟩
theorem Bel.none {C H : Hp} (b : Bel C H) {p : Addr} (h : H p = none) : C p = none := by
  cases q : C p with
  | none => rfl
  | some o => exact absurd h (b p o q).some
theorem same_upd {C : Hp} {p : Addr} {o : HO} (h : C p = none) : Same C (upd C p o) := fun a u e => by rw [upd_ne (ne_of_none e h)]; exact e
section
variable {B : Bs} {C H : Hp} {W : Wl} {p : Addr} {o : HO} {K : Con}
theorem EntE.alloc (E : EntE B C W H) (hp : H p = none) : Same C (upd C p o) ∧ EntE B (upd C p o) W (upd H p o) := by
  obtain ⟨G, E⟩ := E
  have hC : C p = none := E.ch.none hp
  have hG : G p = none := E.gh.free hp
  have sC : Same C (upd C p o) := same_upd hC
  have sH : Same H (upd H p o) := same_upd hp
  refine ⟨sC, G, E.gh.trans sH, fun a u e => ?_, E.cc.trans sC, fun a u u' e e' => ?_, E.g0, E.nd, fun q hq => ?_⟩
  · by_cases ha : a = p
    · subst ha; rw [upd_same] at e; cases e; exact .inl upd_same
    · rw [upd_ne ha] at e; exact (E.ch a u e).mono sH
  · have ha : a ≠ p := fun z => by subst z; rw [hG] at e'; cases e'
    rw [upd_ne ha] at e; exact E.dj a u u' e e'
  · obtain ⟨a1, a2, o', a3, a4, a5⟩ := E.ow q hq
    have ha : q.1 ≠ p := fun z => by rw [z, hG] at a3; cases a3
    exact ⟨a1, by rw [upd_ne ha]; exact a2, o', a3, a4, q.2.mono sC a5⟩
theorem EntE.own (E : EntE B C W H) (hp : H p = none) (m : Mut (some o)) (k : K.r o C) : EntE B C (W ++ [(p, K)]) (upd H p o) := by
  obtain ⟨G, E⟩ := E
  have hC : C p = none := E.ch.none hp
  have hG : G p = none := E.gh.free hp
  have sH : Same H (upd H p o) := same_upd hp
  refine ⟨upd G p o, fun a u e => ?_, fun a u e => (E.ch a u e).mono sH, E.cc, fun a u u' e e' => ?_, E.g0.trans (same_upd hG), ?_, fun q hq => ?_⟩
  · by_cases ha : a = p
    · subst ha; rw [upd_same] at e ⊢; exact e
    · rw [upd_ne ha] at e ⊢; exact E.gh a u e
  · have ha : a ≠ p := fun z => by subst z; rw [hC] at e; cases e
    rw [upd_ne ha] at e'; exact E.dj a u u' e e'
  · rw [List.map_append, List.nodup_append]
    refine ⟨E.nd, by simp, fun a ha b hb => ?_⟩
    obtain ⟨q, hq, rfl⟩ := List.mem_map.mp ha
    have hb' : b = p := by simpa using hb
    subst hb'
    obtain ⟨_, _, o', a3, _⟩ := E.ow q hq
    intro z; rw [z, hG] at a3; cases a3
  · rcases List.mem_append.mp hq with hq | hq
    · obtain ⟨a1, a2, o', a3, a4, a5⟩ := E.ow q hq
      have ha : q.1 ≠ p := fun z => by rw [z, hG] at a3; cases a3
      exact ⟨a1, a2, o', by rw [upd_ne ha]; exact a3, a4, a5⟩
    · have e : q = (p, K) := by simpa using hq
      subst e
      exact ⟨E.g0.free hG, hC, o, upd_same, m, k⟩
theorem nd_at {W : Wl} (nd : (W.map (·.1)).Nodup) {j i : Nat} {p : Addr} {K K' : Con} (a : W[j]? = some (p, K)) (b : W[i]? = some (p, K')) : i = j :=
  nodup_ixA nd (by rw [List.getElem?_map, b]; rfl) (by rw [List.getElem?_map, a]; rfl)
where
  nodup_ixA {l : List Addr} (hN : l.Nodup) {i j : Nat} {x : Addr} (a : l[i]? = some x) (b : l[j]? = some x) : i = j := by
    obtain ⟨h1, e1⟩ := List.getElem?_eq_some_iff.mp a
    obtain ⟨h2, e2⟩ := List.getElem?_eq_some_iff.mp b
    exact (List.getElem_inj hN).mp (e1.trans e2.symm)
theorem map_set_fst {W : Wl} {j : Nat} {p : Addr} {K K' : Con} (a : W[j]? = some (p, K)) : (W.set j (p, K')).map (·.1) = W.map (·.1) := by
  rw [List.map_set]
  refine List.ext_getElem? fun i => ?_
  rw [List.getElem?_set]
  split
  · rename_i e
    subst e
    split
    · rw [List.getElem?_map, a]; rfl
    · rename_i h
      rw [List.length_map] at h
      have := (List.getElem?_eq_some_iff.mp a).1
      exact absurd this h
  · rfl
theorem EntE.put {K' : Con} {o' : HO} {j : Nat} (E : EntE B C W H) (hj : W[j]? = some (p, K)) (m : Mut (some o')) (k : K'.r o' C) : EntE B C (W.set j (p, K')) (upd H p o') := by
  obtain ⟨G, E⟩ := E
  obtain ⟨b1, b2, o, b3, b4, b5⟩ := E.ow _ (List.mem_of_getElem? hj)
  have b1 : B.g p = none := b1
  have b2 : C p = none := b2
  refine ⟨upd G p o', fun a u e => ?_, fun a u e => ?_, E.cc, fun a u u' e e' => ?_, fun a u e => ?_, ?_, fun q hq => ?_⟩
  · by_cases ha : a = p
    · subst ha; rw [upd_same] at e ⊢; exact e
    · rw [upd_ne ha] at e ⊢; exact E.gh a u e
  · have ha : a ≠ p := fun z => by subst z; rw [b2] at e; cases e
    have := E.ch a u e
    unfold At1 at this ⊢
    rw [upd_ne ha]; exact this
  · have ha : a ≠ p := fun z => by subst z; rw [b2] at e; cases e
    rw [upd_ne ha] at e'; exact E.dj a u u' e e'
  · have ha : a ≠ p := fun z => by subst z; rw [b1] at e; cases e
    rw [upd_ne ha]; exact E.g0 a u e
  · rw [map_set_fst hj]; exact E.nd
  · obtain ⟨i, hi⟩ := List.getElem?_of_mem hq
    by_cases ij : i = j
    · subst ij
      rw [List.getElem?_set_self (List.getElem?_eq_some_iff.mp hj).1] at hi
      cases hi
      exact ⟨b1, b2, o', upd_same, m, k⟩
    · rw [List.getElem?_set_ne (Ne.symm ij)] at hi
      obtain ⟨a1, a2, u, a3, a4, a5⟩ := E.ow q (List.mem_of_getElem? hi)
      have ha : q.1 ≠ p := fun z => ij (nd_at E.nd hj (by rw [hi, ← z]))
      exact ⟨a1, a2, u, by rw [upd_ne ha]; exact a3, a4, a5⟩
theorem EntE.look {j : Nat} (E : EntE B C W H) (hj : W[j]? = some (p, K)) : ∃ o, H p = some o ∧ Mut (some o) ∧ K.r o C := by
  obtain ⟨G, E⟩ := E
  obtain ⟨_, _, o, b3, b4, b5⟩ := E.ow _ (List.mem_of_getElem? hj)
  exact ⟨o, E.gh _ _ b3, b4, b5⟩
theorem EntE.cnone {j : Nat} (E : EntE B C W H) (hj : W[j]? = some (p, K)) : C p = none := by
  obtain ⟨G, E⟩ := E
  exact (E.ow _ (List.mem_of_getElem? hj)).2.1
/-- an owned object is given to the core -/
theorem EntE.freeze {j : Nat} (E : EntE B C W H) (hj : W[j]? = some (p, K)) : ∃ o, C p = none ∧ K.r o C ∧ Same C (upd C p o) ∧ EntE B (upd C p o) (W.eraseIdx j) H := by
  obtain ⟨G, E⟩ := E
  obtain ⟨b1, b2, o, b3, b4, b5⟩ := E.ow _ (List.mem_of_getElem? hj)
  have b1 : B.g p = none := b1
  have b2 : C p = none := b2
  have sC : Same C (upd C p o) := same_upd b2
  refine ⟨o, b2, b5, sC, fun a => if a = p then none else G a, fun a u e => ?_, fun a u e => ?_, E.cc.trans sC, fun a u u' e e' => ?_, fun a u e => ?_, ?_, fun q hq => ?_⟩
  · by_cases ha : a = p
    · simp [ha] at e
    · simp only [ha, if_false] at e; exact E.gh a u e
  · by_cases ha : a = p
    · subst ha; rw [upd_same] at e; cases e; exact .inl (E.gh _ _ b3)
    · rw [upd_ne ha] at e; exact E.ch a u e
  · by_cases ha : a = p
    · simp [ha] at e'
    · simp only [ha, if_false] at e'; rw [upd_ne ha] at e; exact E.dj a u u' e e'
  · have ha : a ≠ p := fun z => by subst z; rw [b1] at e; cases e
    simp only [ha, if_false]; exact E.g0 a u e
  · exact E.nd.sublist ((List.eraseIdx_sublist W j).map _)
  · obtain ⟨i, hi⟩ := List.getElem?_of_mem hq
    have hi2 : ∃ i', i' ≠ j ∧ W[i']? = some q := by
      rw [List.getElem?_eraseIdx] at hi
      split at hi
      · exact ⟨i, by omega, hi⟩
      · exact ⟨i + 1, by omega, hi⟩
    obtain ⟨i', ij, hi'⟩ := hi2
    obtain ⟨a1, a2, u, a3, a4, a5⟩ := E.ow q (List.mem_of_getElem? hi')
    have ha : q.1 ≠ p := fun z => ij (nd_at E.nd hj (by rw [hi', ← z]))
    exact ⟨a1, by rw [upd_ne ha]; exact a2, u, by simp only [ha, if_false]; exact a3, a4, q.2.mono sC a5⟩
/-- a callee that owns nothing: what it is given -/
theorem EntE.down (E : EntE B C W H) : ∃ g, EntE ⟨C, g⟩ C [] H ∧ ∀ C' H', EntE ⟨C, g⟩ C' [] H' → Same C C' ∧ EntE B C' W H' := by
  obtain ⟨G, E⟩ := E
  refine ⟨G, ⟨G, E.gh, E.ch, Same.refl _, fun a o o' e _ => e, Same.refl _, by simp, fun q hq => by simp at hq⟩, fun C' H' ⟨G', E'⟩ => ⟨E'.cc, G, E'.g0.trans E'.gh, E'.ch, E.cc.trans E'.cc, fun a o o' e e' => E.dj a o o' (E'.dj a o o' e (E'.g0 a o' e')) e', E.g0, E.nd, fun q hq => ?_⟩⟩
  obtain ⟨a1, a2, u, a3, a4, a5⟩ := E.ow q hq
  refine ⟨a1, ?_, u, a3, a4, q.2.mono E'.cc a5⟩
  cases z : C' q.1 with
  | none => rfl
  | some o =>
    have z2 : C q.1 = some o := E'.dj q.1 o u z (E'.g0 _ _ a3)
    rw [a2] at z2; cases z2
/-- a callee that owns one of ours -/
theorem EntE.down1 {j : Nat} (E : EntE B C W H) (hj : W[j]? = some (p, K)) : ∃ g, g p = none ∧ EntE ⟨C, g⟩ C [(p, K)] H ∧ ∀ C' H' K', EntE ⟨C, g⟩ C' [(p, K')] H' → Same C C' ∧ EntE B C' (W.set j (p, K')) H' := by
  obtain ⟨G, E⟩ := E
  obtain ⟨b1, b2, o, b3, b4, b5⟩ := E.ow _ (List.mem_of_getElem? hj)
  have b1 : B.g p = none := b1
  have b2 : C p = none := b2
  have sub : Same (fun a => if a = p then none else G a) G := fun a u e => by
    by_cases ha : a = p
    · simp [ha] at e
    · simpa only [ha, if_false] using e
  refine ⟨fun a => if a = p then none else G a, by simp, ⟨G, E.gh, E.ch, Same.refl _, fun a o o' e _ => e, sub, by simp, fun q hq => ?_⟩, fun C' H' K' ⟨G', E'⟩ => ?_⟩
  · have e : q = (p, K) := by simpa using hq
    subst e
    exact ⟨by simp, b2, o, b3, b4, b5⟩
  · obtain ⟨c1, c2, o', c3, c4, c5⟩ := E'.ow (p, K') (by simp)
    have c3 : G' p = some o' := c3
    have g0' : ∀ a u, a ≠ p → G a = some u → G' a = some u := fun a u ha e => E'.g0 a u (by simp only [ha, if_false]; exact e)
    refine ⟨E'.cc, upd G p o', fun a u e => ?_, E'.ch, E.cc.trans E'.cc, fun a u u' e e' => ?_, fun a u e => ?_, by rw [map_set_fst hj]; exact E.nd, fun q hq => ?_⟩
    · by_cases ha : a = p
      · subst ha; rw [upd_same] at e; cases e; exact E'.gh _ _ c3
      · rw [upd_ne ha] at e; exact E'.gh a u (g0' a u ha e)
    · have ha : a ≠ p := fun z => by subst z; rw [c2] at e; cases e
      rw [upd_ne ha] at e'
      exact E.dj a u u' (E'.dj a u u' e (g0' a u' ha e')) e'
    · have ha : a ≠ p := fun z => by subst z; rw [b1] at e; cases e
      rw [upd_ne ha]; exact E.g0 a u e
    · obtain ⟨i, hi⟩ := List.getElem?_of_mem hq
      by_cases ij : i = j
      · subst ij
        rw [List.getElem?_set_self (List.getElem?_eq_some_iff.mp hj).1] at hi
        cases hi
        exact ⟨b1, c2, o', upd_same, c4, c5⟩
      · rw [List.getElem?_set_ne (Ne.symm ij)] at hi
        obtain ⟨a1, a2, u, a3, a4, a5⟩ := E.ow q (List.mem_of_getElem? hi)
        have ha : q.1 ≠ p := fun z => ij (nd_at E.nd hj (by rw [hi, ← z]))
        refine ⟨a1, ?_, u, by rw [upd_ne ha]; exact a3, a4, q.2.mono E'.cc a5⟩
        cases z : C' q.1 with
        | none => rfl
        | some o =>
          have z2 : C q.1 = some o := E'.dj q.1 o u z (g0' _ _ ha a3)
          rw [a2] at z2; cases z2
theorem EntE.cc (E : EntE B C W H) : Same B.c C := let ⟨_, e⟩ := E; e.cc
theorem EntE.ch (E : EntE B C W H) : Bel C H := let ⟨_, e⟩ := E; e.ch
/-- fewer are told -/
theorem EntE.sub {W' : Wl} (E : EntE B C W H) (s : W'.Sublist W) : EntE B C W' H := by
  obtain ⟨G, E⟩ := E
  exact ⟨G, E.gh, E.ch, E.cc, E.dj, E.g0, E.nd.sublist (s.map _), fun q hq => E.ow q (s.subset hq)⟩
/-- told otherwise -/
inductive Wc : Wl → Wl → Prop where
  | n : Wc [] []
  | d {W : Wl} : Wc W []
  | k {q : Addr × Con} {W W' : Wl} : Wc W W' → Wc (q :: W) (q :: W')
  | c {p : Addr} {K K' : Con} {W W' : Wl} : (∀ o C, K.r o C → K'.r o C) → Wc W W' → Wc ((p, K) :: W) ((p, K') :: W')
theorem Wc.refl : ∀ W : Wl, Wc W W
  | [] => .n
  | _ :: W => .k (Wc.refl W)
theorem Wc.fst {W W' : Wl} (h : Wc W W') : (W'.map (·.1)).Sublist (W.map (·.1)) := by
  induction h with
  | n => exact .slnil
  | d => exact List.nil_sublist _
  | k _ ih => exact ih.cons_cons _
  | c _ _ ih => exact ih.cons_cons _
theorem Wc.mem {W W' : Wl} (h : Wc W W') : ∀ q' ∈ W', ∃ q ∈ W, q.1 = q'.1 ∧ ∀ o C, q.2.r o C → q'.2.r o C := by
  induction h with
  | n => intro q h; simp at h
  | d => intro q h; simp at h
  | k _ ih =>
    intro q' hq
    rcases List.mem_cons.mp hq with rfl | hq
    · exact ⟨q', List.mem_cons_self, rfl, fun _ _ h => h⟩
    · obtain ⟨q, h1, h2⟩ := ih q' hq; exact ⟨q, List.mem_cons_of_mem _ h1, h2⟩
  | c h _ ih =>
    intro q' hq
    rcases List.mem_cons.mp hq with rfl | hq
    · exact ⟨_, List.mem_cons_self, rfl, h⟩
    · obtain ⟨q, h1, h2⟩ := ih q' hq; exact ⟨q, List.mem_cons_of_mem _ h1, h2⟩
theorem EntE.wc {W' : Wl} (E : EntE B C W H) (s : Wc W W') : EntE B C W' H := by
  obtain ⟨G, E⟩ := E
  refine ⟨G, E.gh, E.ch, E.cc, E.dj, E.g0, E.nd.sublist s.fst, fun q' hq' => ?_⟩
  obtain ⟨q, hq, e, h⟩ := s.mem q' hq'
  obtain ⟨a1, a2, o, a3, a4, a5⟩ := E.ow q hq
  rw [← e]
  exact ⟨a1, a2, o, a3, a4, h o C a5⟩
/-- the dict at d is locked -/
theorem EntE.lock {d : Addr} {ks : List (Key × V)} {ob : Obj} (E : EntE B C W H) (hd : C d = some (.dK ks)) (hH : H d = some (.dK ks)) :
    EntE ⟨upd B.c d (.dK ks), upd B.g d (.frz ob (.dK ks))⟩ C W (upd H d (.frz ob (.dK ks))) := by
  obtain ⟨G, E⟩ := E
  refine ⟨upd G d (.frz ob (.dK ks)), fun a u e => ?_, fun a u e => ?_, fun a u e => ?_, fun a u u' e e' => ?_, fun a u e => ?_, E.nd, fun q hq => ?_⟩
  · by_cases ha : a = d
    · subst ha; rw [upd_same] at e ⊢; exact e
    · rw [upd_ne ha] at e ⊢; exact E.gh a u e
  · by_cases ha : a = d
    · subst ha; rw [hd] at e; cases e; exact .inr ⟨ob, ks, rfl, upd_same⟩
    · have := E.ch a u e; unfold At1 at this ⊢; rw [upd_ne ha]; exact this
  · by_cases ha : a = d
    · subst ha; have e : (upd B.c a (.dK ks)) a = some u := e; rw [upd_same] at e; cases e; exact hd
    · have e : (upd B.c d (.dK ks)) a = some u := e; rw [upd_ne ha] at e; exact E.cc a u e
  · by_cases ha : a = d
    · subst ha; rw [hd] at e; cases e; exact upd_same
    · rw [upd_ne ha] at e'; show (upd B.c d (.dK ks)) a = _; rw [upd_ne ha]; exact E.dj a u u' e e'
  · by_cases ha : a = d
    · subst ha; have e : (upd B.g a (.frz ob (.dK ks))) a = some u := e; rw [upd_same] at e; cases e; exact upd_same
    · have e : (upd B.g d (.frz ob (.dK ks))) a = some u := e; rw [upd_ne ha] at e; rw [upd_ne ha]; exact E.g0 a u e
  · obtain ⟨a1, a2, u, a3, a4, a5⟩ := E.ow q hq
    have ha : q.1 ≠ d := fun z => by rw [z, hd] at a2; cases a2
    exact ⟨by show (upd B.g d (.frz ob (.dK ks))) q.1 = none; rw [upd_ne ha]; exact a1, a2, u, by rw [upd_ne ha]; exact a3, a4, a5⟩
/-- .. and unlocked -/
theorem EntE.unlock {d : Addr} {ks : List (Key × V)} {ob : Obj} {C0 H0 H' C' : Hp} {W0 : Wl} (E0 : EntE B C0 W0 H0) (hd : C0 d = some (.dK ks)) (hH : H0 d = some (.dK ks))
    (E : EntE ⟨upd B.c d (.dK ks), upd B.g d (.frz ob (.dK ks))⟩ C' W H') : H' d = some (.frz ob (.dK ks)) ∧ EntE B C' W (upd H' d (.dK ks)) := by
  obtain ⟨G0, E0⟩ := E0
  obtain ⟨G, E⟩ := E
  have hG : G d = some (.frz ob (.dK ks)) := E.g0 d _ upd_same
  have hC' : C' d = some (.dK ks) := E.cc d _ upd_same
  have bg : ∀ o, B.g d = some o → o = .dK ks ∧ B.c d = some (.dK ks) := fun o e => by
    have h1 := E0.gh d o (E0.g0 d o e)
    rw [hH] at h1; cases h1
    exact ⟨rfl, E0.dj d _ _ hd (E0.g0 d _ e)⟩
  have bc : ∀ o, B.c d = some o → o = .dK ks := fun o e => by
    have h1 := E0.cc d o e
    rw [hd] at h1; cases h1; rfl
  refine ⟨E.gh d _ hG, fun a => if a = d then B.g d else G a, fun a u e => ?_, fun a u e => ?_, fun a u e => ?_, fun a u u' e e' => ?_, fun a u e => ?_, E.nd, fun q hq => ?_⟩
  · by_cases ha : a = d
    · subst ha; simp only [if_true] at e; obtain ⟨rfl, _⟩ := bg u e; exact upd_same
    · simp only [ha, if_false] at e; rw [upd_ne ha]; exact E.gh a u e
  · by_cases ha : a = d
    · subst ha; rw [hC'] at e; cases e; exact .inl upd_same
    · have := E.ch a u e; unfold At1 at this ⊢; rw [upd_ne ha]; exact this
  · by_cases ha : a = d
    · subst ha; rw [bc u e]; exact hC'
    · exact E.cc a u (by show (upd B.c d (.dK ks)) a = _; rw [upd_ne ha]; exact e)
  · by_cases ha : a = d
    · subst ha; simp only [if_true] at e'; rw [hC'] at e; cases e; exact (bg u' e').2
    · simp only [ha, if_false] at e'
      have z : (upd B.c d (.dK ks)) a = some u := E.dj a u u' e e'
      rw [upd_ne ha] at z; exact z
  · by_cases ha : a = d
    · subst ha; simp only [if_true]; exact e
    · simp only [ha, if_false]; exact E.g0 a u (by show (upd B.g d (.frz ob (.dK ks))) a = _; rw [upd_ne ha]; exact e)
  · obtain ⟨a1, a2, u, a3, a4, a5⟩ := E.ow q hq
    have ha : q.1 ≠ d := fun z => by rw [z, hC'] at a2; cases a2
    have a1 : (upd B.g d (.frz ob (.dK ks))) q.1 = none := a1
    rw [upd_ne ha] at a1
    exact ⟨a1, a2, u, by simp only [ha, if_false]; exact a3, a4, a5⟩
end
end MJ
set_option maxHeartbeats 4000000
/-! Typed judgements: what a construct means, the rules for expressions. -/
namespace MJ
open PySem PySem.Spec L2
open PyProof.Rows hiding St

/-! ### meanings -/
def sE (X : Cx) (e : Expr) : TE := fun σ H Q => ∀ (pins : List (Addr × Obj)) (s : Shared), Inv X pins σ H s → wpAny (model X.prog X.w) X.A (eval e X.env) (EP X pins σ Q) X.xe s
def sT (X : Cx) (e : Expr) : TT := fun σ H Q => ∀ (pins : List (Addr × Obj)) (s : Shared), Inv X pins σ H s → wpAny (model X.prog X.w) X.A (isTrue e X.env (eval e X.env)) (TP X pins σ Q) X.xe s
def sW (X : Cx) (e : Expr) : TT := fun σ H Q => ∀ (whole : Sem Value) (pins : List (Addr × Obj)) (s : Shared), Inv X pins σ H s → wpAny (model X.prog X.w) X.A (isTrue e X.env whole) (TP X pins σ Q) X.xe s
def sA (X : Cx) (es : List Expr) : TA := fun σ H Q => ∀ (pos : Pos) (pins : List (Addr × Obj)) (s : Shared), Inv X pins σ H s → wpAny (model X.prog X.w) X.A (spliced (backTo pos (starEach es X.env))) (AP X pins σ Q) X.xe s
def sS (X : Cx) (st : Stmt) : TS := fun D σ H => ∀ (pins : List (Addr × Obj)) (s : Shared), Inv X pins σ H s → wpAny (model X.prog X.w) X.A (exec st X.env) (SP X pins D) X.xe s
def sB (X : Cx) (st : List Stmt) : TS := fun D σ H => ∀ (pins : List (Addr × Obj)) (s : Shared), Inv X pins σ H s → wpAny (model X.prog X.w) X.A (execs st X.env) (SP X pins D) X.xe s
section
variable {X : Cx} {e : Expr} {es : List Expr} {st : Stmt} {sts : List Stmt} {σ : St} {H : Hp}
theorem pe_s : PE X e (sE X e) := ⟨fun pins s _ _ _ I h => h pins s I⟩
theorem pt_s : PT X e (sT X e) := ⟨fun pins s _ _ _ I h => h pins s I⟩
theorem pw_s : PW X e (sW X e) := ⟨fun wh pins s _ _ _ I h => h wh pins s I⟩
theorem toW {t : TT} (h : PW X e t) {Q : Bool → Hp → Prop} (q : t σ H Q) : sW X e σ H Q := fun wh pins s I => h.run wh pins s σ H Q I q
theorem pa_s : PA X es (sA X es) := ⟨fun pos pins s _ _ _ I h => h pos pins s I⟩
theorem ps_s : PS X st (sS X st) := ⟨fun pins s _ _ _ I h => h pins s I⟩
theorem pb_s : PSs X sts (sB X sts) := ⟨fun pins s _ _ _ I h => h pins s I⟩
theorem toE {t : TE} (h : PE X e t) {Q : VK} (q : t σ H Q) : sE X e σ H Q := fun pins s I => h.run pins s σ H Q I q
theorem toT {t : TT} (h : PT X e t) {Q : Bool → Hp → Prop} (q : t σ H Q) : sT X e σ H Q := fun pins s I => h.run pins s σ H Q I q
theorem toA {t : TA} (h : PA X es t) {Q : List V → Hp → Prop} (q : t σ H Q) : sA X es σ H Q := fun pos pins s I => h.run pos pins s σ H Q I q
theorem toS {t : TS} (h : PS X st t) {D : Ends} (q : t D σ H) : sS X st D σ H := fun pins s I => h.run pins s σ H D I q
theorem toB {t : TS} (h : PSs X sts t) {D : Ends} (q : t D σ H) : sB X sts D σ H := fun pins s I => h.run pins s σ H D I q
end

/-! ### states -/
abbrev Gm := List (Option Ty)
def Sl (Γ : Gm) (σ : St) (C : Hp) : Prop := Γ.length = σ.length ∧ ∀ (i : Nat) (T : Ty), Γ[i]? = some (some T) → ∃ v, σ[i]? = some (some v) ∧ T.r v C
structure Stt (B : Bs) (Γ : Gm) (W : Wl) (σ : St) (C H : Hp) : Prop where
  sl : Sl Γ σ C
  en : EntE B C W H
theorem Sl.mono {Γ : Gm} {σ : St} {C C' : Hp} (s : Same C C') (h : Sl Γ σ C) : Sl Γ σ C' := ⟨h.1, fun i T e => let ⟨v, a, b⟩ := h.2 i T e; ⟨v, a, T.mono s b⟩⟩
theorem Sl.set {Γ : Gm} {σ : St} {C : Hp} {T : Ty} {v : V} (i : Nat) (h : Sl Γ σ C) (t : T.r v C) : Sl (Γ.set i (some T)) (σ.set i (some v)) C := by
  refine ⟨by rw [List.length_set, List.length_set]; exact h.1, fun j U e => ?_⟩
  by_cases ij : j = i
  · subst ij
    have hl : j < Γ.length := by
      have := (List.getElem?_eq_some_iff.mp e).1
      rwa [List.length_set] at this
    rw [List.getElem?_set_self hl] at e
    cases e
    exact ⟨v, List.getElem?_set_self (by rw [← h.1]; exact hl), t⟩
  · rw [List.getElem?_set_ne (Ne.symm ij)] at e
    rw [List.getElem?_set_ne (Ne.symm ij)]
    exact h.2 j U e
theorem Stt.go {B : Bs} {Γ : Gm} {W : Wl} {σ : St} {C C' H H' : Hp} (S : Stt B Γ W σ C H) (s : Same C C') (E : EntE B C' W H') : Stt B Γ W σ C' H' := ⟨S.sl.mono s, E⟩

/-! ### judgements -/
section
variable (X : Cx) (B : Bs) (Γ : Gm) (W : Wl)
def Ev (e : Expr) (R : Ty) : Prop := ∀ (σ : St) (C H : Hp), Stt B Γ W σ C H → ∀ Q : VK, (∀ v C' H', Same C C' → EntE B C' W H' → R.r v C' → Q v H') → sE X e σ H Q
def Tv (e : Expr) (P : Bool → Prop) : Prop := ∀ (σ : St) (C H : Hp), Stt B Γ W σ C H → ∀ Q : Bool → Hp → Prop, (∀ b C' H', Same C C' → EntE B C' W H' → P b → Q b H') → sT X e σ H Q
def As (es : List Expr) (Ts : List Ty) : Prop := ∀ (σ : St) (C H : Hp), Stt B Γ W σ C H → ∀ Q : List V → Hp → Prop, (∀ vs C' H', Same C C' → EntE B C' W H' → Als Ts vs C' → Q vs H') → sA X es σ H Q
/-- a container that is read: a core object or an owned one -/
def Lv (e : Expr) (K : Con) : Prop := ∀ (σ : St) (C H : Hp), Stt B Γ W σ C H → ∀ Q : VK, (∀ p C' H', Same C C' → EntE B C' W H' → (∀ C2 H2, Same C' C2 → EntE B C2 W H2 → ∃ o, At1 H2 p o ∧ K.r o C2) → Q (.ref p) H') → sE X e σ H Q
def Sj (sts : List Stmt) (D : Ends) : Prop := ∀ (σ : St) (C H : Hp), Stt B Γ W σ C H → sB X sts D σ H
end
abbrev Kn (B : Bs) (W : Wl) (C : Hp) (R : Ty) (Q : VK) : Prop := ∀ v C' H', Same C C' → EntE B C' W H' → R.r v C' → Q v H'
abbrev Kp (B : Bs) (W : Wl) (C : Hp) (P : Bool → Prop) (Q : Bool → Hp → Prop) : Prop := ∀ b C' H', Same C C' → EntE B C' W H' → P b → Q b H'

section
variable {X : Cx} {B : Bs} {Γ : Gm} {W : Wl} {a b c e : Expr} {es : List Expr} {pos pos' apos : Pos} {R Ra Rb : Ty} {Ts : List Ty} {K : Con} {x : Str}
theorem kup {C C1 : Hp} {Q : VK} (k : Kn B W C R Q) (s : Same C C1) : Kn B W C1 R Q := fun v C' H' s' => k v C' H' (s.trans s')

/-! names, constants -/
theorem Ev.v (i : Nat) (h : Γ[i]? = some (some R)) (hN : X.N[i]? = some x := by rfl) (hv : Vis X.env.scope x := by first | exact Or.inl rfl | exact Or.inr (Or.inl rfl) | exact Or.inr (Or.inr rfl)) (hd : (x == ("__debug__" : Str)) = false := by decide)
    (hcd : (x == ("__classdict__" : Str)) = false := by decide) : Ev X B Γ W (.Name x pos) R := fun σ C H S Q k =>
  let ⟨v, e, r⟩ := S.sl.2 i R h
  toE (pe_var hN hv hd hcd) ⟨v, e, k v C H (Same.refl _) S.en r⟩
theorem Ev.int {i j pos} : Ev X B Γ W (.Constant (.int i) j pos) (tyI i) := fun σ C H S Q k => toE pe_int (k _ C H (Same.refl _) S.en rfl)
theorem Ev.str {i j pos} : Ev X B Γ W (.Constant (.str i) j pos) (tyS i) := fun σ C H S Q k => toE pe_str (k _ C H (Same.refl _) S.en rfl)
theorem Ev.bl {i j pos} : Ev X B Γ W (.Constant (.bool i) j pos) (tyB i) := fun σ C H S Q k => toE pe_bl (k _ C H (Same.refl _) S.en rfl)
theorem Ev.non {j pos} : Ev X B Γ W (.Constant .none j pos) tyN := fun σ C H S Q k => toE pe_non (k _ C H (Same.refl _) S.en rfl)
theorem Ev.glob {v : V} {u : Value} (hm : X.mg x = some u) (r : RelV v u) (hg : Gl X x := by rfl) (hd : (x == ("__debug__" : Str)) = false := by decide) : Ev X B Γ W (.Name x pos) (tyV v) :=
  fun σ C H S Q k => toE (pe_glob hg hm r hd) (k _ C H (Same.refl _) S.en rfl)
theorem Ev.bltn {v : V} {u : Value} (hm : X.mg x = none) (hv : bootBuiltins x = some u) (r : RelV v u) (hg : Gl X x := by rfl) (hn : x ≠ "__name__" := by decide) (hd : (x == ("__debug__" : Str)) = false := by decide) : Ev X B Γ W (.Name x pos) (tyV v) :=
  fun σ C H S Q k => toE (pe_bltn hg hm hv r hn hd) (k _ C H (Same.refl _) S.en rfl)
/-- told otherwise -/
theorem Ev.conv {R' : Ty} (h : Ev X B Γ W e R) (f : ∀ v C, R.r v C → R'.r v C) : Ev X B Γ W e R' := fun σ C H S Q k => h σ C H S Q fun v C' H' s E r => k v C' H' s E (f v C' r)
theorem Ev.eq {R' : Ty} (h : Ev X B Γ W e R) (f : R = R') : Ev X B Γ W e R' := f ▸ h

/-! operators -/
theorem Ev.op {o : Operator} {r : R2} (ho : OpR X (binaryOp o) r) (ha : Ev X B Γ W a Ra) (hb : Ev X B Γ W b Rb)
    (f : ∀ x y C H Q, EntE B C W H → Ra.r x C → Rb.r y C → Kn B W C R Q → r x y H Q) : Ev X B Γ W (.BinOp a o b pos) R := fun σ C H S Q k =>
  toE (pe_op ho pe_s pe_s) (ha σ C H S _ fun x C1 H1 s1 E1 r1 => hb σ C1 H1 (S.go s1 E1) _ fun y C2 H2 s2 E2 r2 => f x y C2 H2 Q E2 (Ra.mono s2 r1) r2 fun v C' H' s => k v C' H' ((s1.trans s2).trans s))
theorem Ev.add {i j : Int} (ha : Ev X B Γ W a (tyI i)) (hb : Ev X B Γ W b (tyI j)) : Ev X B Γ W (.BinOp a .Add b pos) (tyI (i + j)) := Ev.op op_add ha hb fun x y C H Q E r1 r2 k => ⟨i, j, r1, r2, k _ C H (Same.refl _) E rfl⟩
theorem Ev.sub {i j : Int} (ha : Ev X B Γ W a (tyI i)) (hb : Ev X B Γ W b (tyI j)) : Ev X B Γ W (.BinOp a .Sub b pos) (tyI (i - j)) := Ev.op op_sub ha hb fun x y C H Q E r1 r2 k => ⟨i, j, r1, r2, k _ C H (Same.refl _) E rfl⟩
theorem Ev.mul {i j : Int} (ha : Ev X B Γ W a (tyI i)) (hb : Ev X B Γ W b (tyI j)) (h : CMulW i j) : Ev X B Γ W (.BinOp a .Mult b pos) (tyI (i * j)) := Ev.op op_mulW ha hb fun x y C H Q E r1 r2 k => ⟨i, j, r1, r2, h, k _ C H (Same.refl _) E rfl⟩
theorem Ev.div {i j : Int} (ha : Ev X B Γ W a (tyI i)) (hb : Ev X B Γ W b (tyI j)) (h : CDivW i j) : Ev X B Γ W (.BinOp a .FloorDiv b pos) (tyI (i / j)) := Ev.op op_fdivW ha hb fun x y C H Q E r1 r2 k => ⟨i, j, r1, r2, h, k _ C H (Same.refl _) E rfl⟩
theorem Ev.mod {i j : Int} (ha : Ev X B Γ W a (tyI i)) (hb : Ev X B Γ W b (tyI j)) (h : 0 < j) : Ev X B Γ W (.BinOp a .Mod b pos) (tyI (i % j)) := Ev.op op_mod ha hb fun x y C H Q E r1 r2 k => ⟨i, j, r1, r2, h, k _ C H (Same.refl _) E rfl⟩
theorem Ev.pow {i j : Int} (ha : Ev X B Γ W a (tyI i)) (hb : Ev X B Γ W b (tyI j)) (h : CPow i j) : Ev X B Γ W (.BinOp a .Pow b pos) (tyI (i ^ j.toNat)) := Ev.op op_pow ha hb fun x y C H Q E r1 r2 k => ⟨i, j, r1, r2, h, k _ C H (Same.refl _) E rfl⟩
theorem Ev.addS {i j : Str} (ha : Ev X B Γ W a (tyS i)) (hb : Ev X B Γ W b (tyS j)) (h : i.length + j.length ≤ sizeLine) : Ev X B Γ W (.BinOp a .Add b pos) (tyS (i ++ j)) := Ev.op op_add_str ha hb fun x y C H Q E r1 r2 k => ⟨i, j, r1, r2, h, k _ C H (Same.refl _) E rfl⟩
theorem Paired.app {α β : Type} {F : α → β → Prop} : ∀ {l₁ l₂ : List α} {m₁ m₂ : List β}, Paired F l₁ m₁ → Paired F l₂ m₂ → Paired F (l₁ ++ l₂) (m₁ ++ m₂)
  | _, _, _, _, .nil, h => h
  | _, _, _, _, .cons r t, h => .cons r (Paired.app t h)
theorem at_lst {H : Hp} {p : Addr} {vs : List V} (h : At1 H p (.lst vs)) : H p = some (.lst vs) := by
  rcases h with h | ⟨_, _, e, _⟩
  · exact h
  · cases e
theorem at_tup {H : Hp} {p : Addr} {vs : List V} (h : At1 H p (.tup vs)) : H p = some (.tup vs) := by
  rcases h with h | ⟨_, _, e, _⟩
  · exact h
  · cases e
theorem at_ins {H : Hp} {p C d : Addr} {vs : List (Str × V)} (h : At1 H p (.ins C d vs)) : H p = some (.ins C d vs) := by
  rcases h with h | ⟨_, _, e, _⟩
  · exact h
  · cases e
theorem at_dK {H : Hp} {p : Addr} {vs : List (Key × V)} (h : At1 H p (.dK vs)) : Rd H p (.dK vs) := by
  rcases h with h | ⟨ob, _, e, h⟩
  · exact .inl h
  · cases e; exact .inr ⟨ob, h⟩
/-- a core list in the heap -/
theorem getL {C H : Hp} {v : V} (E : EntE B C W H) (h : (tyLst Ts).r v C) : ∃ p vs, v = .ref p ∧ C p = some (.lst vs) ∧ H p = some (.lst vs) ∧ Als Ts vs C := by
  obtain ⟨p, o, e, hp, vs, rfl, al⟩ := h
  exact ⟨p, vs, e, hp, at_lst (E.ch p _ hp), al⟩
theorem getT {C H : Hp} {v : V} (E : EntE B C W H) (h : (tyTup Ts).r v C) : ∃ p vs, v = .ref p ∧ C p = some (.tup vs) ∧ H p = some (.tup vs) ∧ Als Ts vs C := by
  obtain ⟨p, o, e, hp, vs, rfl, al⟩ := h
  exact ⟨p, vs, e, hp, at_tup (E.ch p _ hp), al⟩
theorem getD {C H : Hp} {v : V} {fs : List (Str × Ty)} (E : EntE B C W H) (h : (tyD fs).r v C) : ∃ p vs, v = .ref p ∧ C p = some (.dK vs) ∧ Rd H p (.dK vs) ∧ Kvs fs vs C := by
  obtain ⟨p, o, e, hp, vs, rfl, al⟩ := h
  exact ⟨p, vs, e, hp, at_dK (E.ch p _ hp), al⟩
theorem getO {C H : Hp} {v : V} {Cl : Addr} {fs : List (Str × Ty)} (E : EntE B C W H) (h : (tyO Cl fs).r v C) : ∃ p dx vs, v = .ref p ∧ C p = some (.ins Cl dx vs) ∧ H p = some (.ins Cl dx vs) ∧ Fls fs vs C := by
  obtain ⟨p, o, e, hp, dx, vs, rfl, al⟩ := h
  exact ⟨p, dx, vs, e, hp, at_ins (E.ch p _ hp), al⟩
/-- a new core object is the answer -/
theorem newObj {C H : Hp} {Q : VK} {o : HO} (E : EntE B C W H) (k : Kn B W C (tyObj K) Q) (r : K.r o C) : ∀ p, H p = none → Q (.ref p) (upd H p o) := fun p hp =>
  let ⟨s, E'⟩ := E.alloc (o := o) hp
  k _ _ _ s E' ⟨p, o, rfl, upd_same, K.mono s r⟩
theorem Ev.addL {Us : List Ty} (ha : Ev X B Γ W a (tyLst Ts)) (hb : Ev X B Γ W b (tyLst Us)) (h : Ts.length + Us.length ≤ sizeLine) : Ev X B Γ W (.BinOp a .Add b pos) (tyLst (Ts ++ Us)) :=
  Ev.op op_cat ha hb fun x y C H Q E r1 r2 k => by
    obtain ⟨p, vs, rfl, _, hp, al⟩ := getL E r1
    obtain ⟨q, ws, rfl, _, hq, al'⟩ := getL E r2
    exact ⟨p, q, vs, ws, rfl, rfl, hp, hq, by rw [← Paired.length al, ← Paired.length al']; exact h, newObj E k ⟨_, rfl, Paired.app al al'⟩⟩

/-! comparisons and tests -/
theorem Ev.cmp {o : CmpOp} {r : R2} (ho : OpR X (compareOp o) r) (ha : Ev X B Γ W a Ra) (hb : Ev X B Γ W b Rb) (hm : behindInMarks o b = false)
    (f : ∀ x y C H Q, EntE B C W H → Ra.r x C → Rb.r y C → Kn B W C R Q → r x y H Q) : Ev X B Γ W (.Compare a [o] [b] pos) R := fun σ C H S Q k =>
  toE (pe_cmpR ho pe_s pe_s hm) (ha σ C H S _ fun x C1 H1 s1 E1 r1 => hb σ C1 H1 (S.go s1 E1) _ fun y C2 H2 s2 E2 r2 => f x y C2 H2 Q E2 (Ra.mono s2 r1) r2 fun v C' H' s => k v C' H' ((s1.trans s2).trans s))
theorem Tv.cmp {o : CmpOp} {r : R2} {P : Bool → Prop} (ho : OpR X (compareOp o) r) (ha : Ev X B Γ W a Ra) (hb : Ev X B Γ W b Rb) (hm : behindInMarks o b = false)
    (f : ∀ x y C H Q, EntE B C W H → Ra.r x C → Rb.r y C → Kp B W C P Q → r x y H (fun z H' => ∃ k, z = .bl k ∧ Q k H')) : Tv X B Γ W (.Compare a [o] [b] pos) P := fun σ C H S Q k =>
  toT (pt_cmpR ho pe_s pe_s hm) (ha σ C H S _ fun x C1 H1 s1 E1 r1 => hb σ C1 H1 (S.go s1 E1) _ fun y C2 H2 s2 E2 r2 => f x y C2 H2 Q E2 (Ra.mono s2 r1) r2 fun v C' H' s => k v C' H' ((s1.trans s2).trans s))
/-- the value of a test is its bool -/
theorem Tv.conv {P P' : Bool → Prop} (h : Tv X B Γ W e P) (f : ∀ b, P b → P' b) : Tv X B Γ W e P' := fun σ C H S Q k => h σ C H S Q fun v C' H' s E r => k v C' H' s E (f v r)
theorem Tv.val {bb : Bool} (h : Ev X B Γ W e (tyB bb)) (he : ∀ whole, isTrue e X.env whole = (do let v ← whole; standAt e.pos; holding [v] (truthy v)) := by intro _; rfl) : Tv X B Γ W e (· = bb) := fun σ C H S Q k =>
  toT (pt_val pe_s he) (h σ C H S _ fun v C' H' s E r => ⟨bb, r, k bb C' H' s E rfl⟩)
section
variable {i j : Int} {u v : Str}
theorem Tv.lt (ha : Ev X B Γ W a (tyI i)) (hb : Ev X B Γ W b (tyI j)) : Tv X B Γ W (.Compare a [.Lt] [b] pos) (· = decide (i < j)) := fun σ C H S Q k =>
  toT (pt_cmp (pc_lt pe_s pe_s)) (ha σ C H S _ fun x C1 H1 s1 E1 r1 => hb σ C1 H1 (S.go s1 E1) _ fun y C2 H2 s2 E2 r2 => ⟨i, j, r1, r2, _, rfl, k _ C2 H2 (s1.trans s2) E2 rfl⟩)
theorem Tv.le (ha : Ev X B Γ W a (tyI i)) (hb : Ev X B Γ W b (tyI j)) : Tv X B Γ W (.Compare a [.LtE] [b] pos) (· = decide (i ≤ j)) := fun σ C H S Q k =>
  toT (pt_cmp (pc_le pe_s pe_s)) (ha σ C H S _ fun x C1 H1 s1 E1 r1 => hb σ C1 H1 (S.go s1 E1) _ fun y C2 H2 s2 E2 r2 => ⟨i, j, r1, r2, _, rfl, k _ C2 H2 (s1.trans s2) E2 rfl⟩)
theorem Tv.gt (ha : Ev X B Γ W a (tyI i)) (hb : Ev X B Γ W b (tyI j)) : Tv X B Γ W (.Compare a [.Gt] [b] pos) (· = decide (j < i)) := fun σ C H S Q k =>
  toT (pt_cmp (pc_gt pe_s pe_s)) (ha σ C H S _ fun x C1 H1 s1 E1 r1 => hb σ C1 H1 (S.go s1 E1) _ fun y C2 H2 s2 E2 r2 => ⟨i, j, r1, r2, _, rfl, k _ C2 H2 (s1.trans s2) E2 rfl⟩)
theorem Tv.ge (ha : Ev X B Γ W a (tyI i)) (hb : Ev X B Γ W b (tyI j)) : Tv X B Γ W (.Compare a [.GtE] [b] pos) (· = decide (j ≤ i)) := fun σ C H S Q k =>
  toT (pt_cmp (pc_ge pe_s pe_s)) (ha σ C H S _ fun x C1 H1 s1 E1 r1 => hb σ C1 H1 (S.go s1 E1) _ fun y C2 H2 s2 E2 r2 => ⟨i, j, r1, r2, _, rfl, k _ C2 H2 (s1.trans s2) E2 rfl⟩)
theorem Tv.eqI (ha : Ev X B Γ W a (tyI i)) (hb : Ev X B Γ W b (tyI j)) : Tv X B Γ W (.Compare a [.Eq] [b] pos) (· = decide (i = j)) := fun σ C H S Q k =>
  toT (pt_cmp (pc_eqI pe_s pe_s)) (ha σ C H S _ fun x C1 H1 s1 E1 r1 => hb σ C1 H1 (S.go s1 E1) _ fun y C2 H2 s2 E2 r2 => ⟨i, j, r1, r2, _, rfl, k _ C2 H2 (s1.trans s2) E2 rfl⟩)
theorem Tv.neI (ha : Ev X B Γ W a (tyI i)) (hb : Ev X B Γ W b (tyI j)) : Tv X B Γ W (.Compare a [.NotEq] [b] pos) (· = !decide (i = j)) := fun σ C H S Q k =>
  toT (pt_cmp (pc_neI pe_s pe_s)) (ha σ C H S _ fun x C1 H1 s1 E1 r1 => hb σ C1 H1 (S.go s1 E1) _ fun y C2 H2 s2 E2 r2 => ⟨i, j, r1, r2, _, rfl, k _ C2 H2 (s1.trans s2) E2 rfl⟩)
theorem Ev.lt (ha : Ev X B Γ W a (tyI i)) (hb : Ev X B Γ W b (tyI j)) : Ev X B Γ W (.Compare a [.Lt] [b] pos) (tyB (decide (i < j))) := fun σ C H S Q k =>
  toE (pe_cmp (pc_lt pe_s pe_s)) (ha σ C H S _ fun x C1 H1 s1 E1 r1 => hb σ C1 H1 (S.go s1 E1) _ fun y C2 H2 s2 E2 r2 => ⟨i, j, r1, r2, k _ C2 H2 (s1.trans s2) E2 rfl⟩)
theorem Ev.eqI (ha : Ev X B Γ W a (tyI i)) (hb : Ev X B Γ W b (tyI j)) : Ev X B Γ W (.Compare a [.Eq] [b] pos) (tyB (decide (i = j))) := fun σ C H S Q k =>
  toE (pe_cmp (pc_eqI pe_s pe_s)) (ha σ C H S _ fun x C1 H1 s1 E1 r1 => hb σ C1 H1 (S.go s1 E1) _ fun y C2 H2 s2 E2 r2 => ⟨i, j, r1, r2, k _ C2 H2 (s1.trans s2) E2 rfl⟩)
theorem dec_str {u v : Str} : decide (V.str u = V.str v) = decide (u = v) := by
  by_cases h : u = v
  · subst h; simp
  · rw [decide_eq_false h, decide_eq_false]; intro z; cases z; exact h rfl
theorem Tv.eqS (ha : Ev X B Γ W a (tyS u)) (hb : Ev X B Γ W b (tyS v)) : Tv X B Γ W (.Compare a [.Eq] [b] pos) (· = decide (u = v)) :=
  Tv.cmp op_eq ha hb (nomark _) fun x y C H Q E r1 r2 k => by cases r1; cases r2; exact ⟨rfl, _, rfl, k _ C H (Same.refl _) E dec_str⟩
theorem Tv.neS (ha : Ev X B Γ W a (tyS u)) (hb : Ev X B Γ W b (tyS v)) : Tv X B Γ W (.Compare a [.NotEq] [b] pos) (· = !decide (u = v)) :=
  Tv.cmp op_ne ha hb (nomark _) fun x y C H Q E r1 r2 k => by cases r1; cases r2; exact ⟨rfl, _, rfl, k _ C H (Same.refl _) E (by rw [dec_str])⟩
end
/-- is None -/
theorem Tv.isN {bb : Bool} (ha : Ev X B Γ W a Ra) (f : ∀ v C, Ra.r v C → decide (v = .non) = bb) {j pos2} : Tv X B Γ W (.Compare a [.Is] [.Constant .none j pos2] pos) (· = bb) := fun σ C H S Q k =>
  toT (pt_cmp (pc_isN pe_s)) (ha σ C H S _ fun x C1 H1 s1 E1 r1 => ⟨_, rfl, by rw [f x C1 r1]; exact k _ C1 H1 s1 E1 rfl⟩)
theorem Tv.notN {bb : Bool} (ha : Ev X B Γ W a Ra) (f : ∀ v C, Ra.r v C → decide (v = .non) = bb) {j pos2} : Tv X B Γ W (.Compare a [.IsNot] [.Constant .none j pos2] pos) (· = !bb) := fun σ C H S Q k =>
  toT (pt_cmp (pc_notN pe_s)) (ha σ C H S _ fun x C1 H1 s1 E1 r1 => ⟨_, rfl, by rw [f x C1 r1]; exact k _ C1 H1 s1 E1 rfl⟩)
/-- and, or, not -/
theorem Tv.not {P : Bool → Prop} (h : Tv X B Γ W a P) : Tv X B Γ W (.UnaryOp .Not a pos) (fun b => P (!b)) := fun σ C H S Q k =>
  toT (pt_not pt_s) (h σ C H S _ fun b C' H' s E p => k (!b) C' H' s E (by show P (!(!b)); rw [Bool.not_not]; exact p))
def Wv (X : Cx) (B : Bs) (Γ : Gm) (W : Wl) (e : Expr) (P : Bool → Prop) : Prop := ∀ (σ : St) (C H : Hp), Stt B Γ W σ C H → ∀ Q : Bool → Hp → Prop, Kp B W C P Q → sW X e σ H Q
theorem Tv.w {P : Bool → Prop} (h : Wv X B Γ W e P) : Tv X B Γ W e P := fun σ C H S Q k => toT pw_s.pt (h σ C H S Q k)
theorem Wv.and1 {P : Bool → Prop} (h : Tv X B Γ W a P) : Wv X B Γ W (.BoolOp .And [a] pos) P := fun σ C H S Q k => toW (pw_and1 pt_s) (h σ C H S Q k)
theorem Wv.or1 {P : Bool → Prop} (h : Tv X B Γ W a P) : Wv X B Γ W (.BoolOp .Or [a] pos) P := fun σ C H S Q k => toW (pw_or1 pt_s) (h σ C H S Q k)
theorem Wv.andP {P P' : Bool → Prop} (h : Tv X B Γ W a P) (h2 : P true → Wv X B Γ W (.BoolOp .And (b :: es) pos) P') : Wv X B Γ W (.BoolOp .And (a :: b :: es) pos) (fun z => (P false ∧ z = false) ∨ (P true ∧ P' z)) := fun σ C H S Q k =>
  toW (pw_and pt_s pw_s) (h σ C H S _ fun c C1 H1 s E p => by
    cases c with
    | true => exact iteT (h2 p σ C1 H1 (S.go s E) Q fun z C' H' s' E' p' => k z C' H' (s.trans s') E' (.inr ⟨p, p'⟩))
    | false => exact iteF (k false C1 H1 s E (.inl ⟨p, rfl⟩)))
theorem Wv.orP {P P' : Bool → Prop} (h : Tv X B Γ W a P) (h2 : P false → Wv X B Γ W (.BoolOp .Or (b :: es) pos) P') : Wv X B Γ W (.BoolOp .Or (a :: b :: es) pos) (fun z => (P true ∧ z = true) ∨ (P false ∧ P' z)) := fun σ C H S Q k =>
  toW (pw_or pt_s pw_s) (h σ C H S _ fun c C1 H1 s E p => by
    cases c with
    | false => exact iteF (h2 p σ C1 H1 (S.go s E) Q fun z C' H' s' E' p' => k z C' H' (s.trans s') E' (.inr ⟨p, p'⟩))
    | true => exact iteT (k true C1 H1 s E (.inl ⟨p, rfl⟩)))
theorem Wv.and {p q : Bool} (h : Tv X B Γ W a (· = p)) (h2 : p = true → Wv X B Γ W (.BoolOp .And (b :: es) pos) (· = q)) : Wv X B Γ W (.BoolOp .And (a :: b :: es) pos) (· = (p && q)) := fun σ C H S Q k =>
  Wv.andP h (fun e => h2 e.symm) σ C H S Q fun z C' H' s E r => k z C' H' s E (by
    rcases r with ⟨r1, rfl⟩ | ⟨r1, r2⟩
    · cases r1; rfl
    · cases r1; cases r2; rfl)
theorem Wv.or {p q : Bool} (h : Tv X B Γ W a (· = p)) (h2 : p = false → Wv X B Γ W (.BoolOp .Or (b :: es) pos) (· = q)) : Wv X B Γ W (.BoolOp .Or (a :: b :: es) pos) (· = (p || q)) := fun σ C H S Q k =>
  Wv.orP h (fun e => h2 e.symm) σ C H S Q fun z C' H' s E r => k z C' H' s E (by
    rcases r with ⟨r1, rfl⟩ | ⟨r1, r2⟩
    · cases r1; rfl
    · cases r1; cases r2; rfl)
/-- .. of the value not -/
theorem Tv.notD {p : Bool} (h : Tv X B Γ W a (· = p)) : Tv X B Γ W (.UnaryOp .Not a pos) (· = !p) := Tv.conv (Tv.not h) fun b h => by rw [← h, Bool.not_not]
/-- a if t else b -/
theorem Ev.ife {P : Bool → Prop} (hc : Tv X B Γ W c P) (ha : P true → Ev X B Γ W a R) (hb : P false → Ev X B Γ W b R) : Ev X B Γ W (.IfExp c a b pos) R := fun σ C H S Q k =>
  toE (pe_ifExp pt_s pe_s pe_s) (hc σ C H S _ fun z C1 H1 s E p => by
    cases z with
    | true => exact iteT (ha p σ C1 H1 (S.go s E) Q fun v C' H' s' => k v C' H' (s.trans s'))
    | false => exact iteF (hb p σ C1 H1 (S.go s E) Q fun v C' H' s' => k v C' H' (s.trans s')))

/-! argument lists, displays -/
theorem As.nil : As X B Γ W [] [] := fun σ C H S Q k => toA pa_nil (k [] C H (Same.refl _) S.en .nil)
theorem As.cons {T : Ty} (ha : Ev X B Γ W e T) (hr : As X B Γ W es Ts) (hs : starEach (e :: es) X.env = (false, eval e X.env) :: starEach es X.env := by rfl) : As X B Γ W (e :: es) (T :: Ts) := fun σ C H S Q k =>
  toA (pa_cons pe_s pa_s hs) (ha σ C H S _ fun v C1 H1 s1 E1 r1 => fun pos pins s I => hr σ C1 H1 (S.go s1 E1) _ (fun vs C2 H2 s2 E2 r2 => k _ C2 H2 (s1.trans s2) E2 (.cons (T.mono s2 r1) r2)) pos pins s I)
theorem Ev.tup {x1} (h : As X B Γ W es Ts) (hl : Ts.length ≤ sizeLine := by first | exact small64 (show 0 < 64 by decide) | exact small64 (show 1 < 64 by decide) | exact small64 (show 2 < 64 by decide) | exact small64 (show 3 < 64 by decide) | exact small64 (show 4 < 64 by decide) | exact small64 (show 8 < 64 by decide)) : Ev X B Γ W (.Tuple es x1 pos) (tyTup Ts) := fun σ C H S Q k =>
  toE (pe_tup pa_s) (fun pos pins s I => h σ C H S _ (fun vs C1 H1 s1 E1 al => ⟨by rw [← Paired.length al]; exact hl, newObj (K := cTup Ts) E1 (kup k s1) ⟨vs, rfl, al⟩⟩) pos pins s I)
theorem Ev.lst (h : As X B Γ W es Ts) (hl : Ts.length ≤ sizeLine := by first | exact small64 (show 0 < 64 by decide) | exact small64 (show 1 < 64 by decide) | exact small64 (show 2 < 64 by decide) | exact small64 (show 3 < 64 by decide) | exact small64 (show 4 < 64 by decide) | exact small64 (show 8 < 64 by decide)) : Ev X B Γ W (.List es pos) (tyLst Ts) := fun σ C H S Q k =>
  toE (pe_lst pa_s) (fun pos pins s I => h σ C H S _ (fun vs C1 H1 s1 E1 al => ⟨by rw [← Paired.length al]; exact hl, newObj (K := cLst Ts) E1 (kup k s1) ⟨vs, rfl, al⟩⟩) pos pins s I)
theorem Ev.dnew : Ev X B Γ W (.Dict [] [] pos) (tyD []) := fun σ C H S Q k => toE pe_dnewK (newObj (K := cD []) S.en k ⟨[], rfl, .nil⟩)
end
end MJ
set_option maxHeartbeats 4000000
/-! Typed rules: containers, fields, built-ins. -/
namespace MJ
open PySem PySem.Spec L2
open PyProof.Rows hiding St
/-! ### lists of types -/
theorem als_at {Ts : List Ty} {vs : List V} {H : Hp} (h : Als Ts vs H) : ∀ {i : Nat} {T : Ty}, Ts[i]? = some T → ∃ v, vs[i]? = some v ∧ T.r v H := by
  induction h with
  | nil => intro i T e; simp at e
  | cons r t ih =>
    intro i T e
    cases i with
    | zero => simp at e; subst e; exact ⟨_, rfl, r⟩
    | succ i => exact ih (by simpa using e)
theorem als_ati {Ts : List Ty} {vs : List V} {H : Hp} (h : Als Ts vs H) {i : Int} {T : Ty} (e : atI Ts i = some T) : ∃ v, atI vs i = some v ∧ T.r v H := by
  unfold atI at e ⊢
  rw [← Paired.length h]
  cases hi : ixN Ts.length i with
  | none => rw [hi] at e; cases e
  | some j => rw [hi] at e; exact als_at h e
theorem als_V {α : Type} (g : α → V) {H : Hp} : ∀ {xs : List α} {vs : List V}, Als (xs.map fun x => tyV (g x)) vs H → vs = xs.map g
  | [], _, .nil => rfl
  | x :: xs, _, .cons r t => by rw [show _ = g x from r, als_V g t]; rfl
theorem als_map {α : Type} {R : α → Ty} {H : Hp} : ∀ {xs : List α} {vs : List V}, Als (xs.map R) vs H → Paired (fun x v => (R x).r v H) xs vs
  | [], _, .nil => .nil
  | _ :: _, _, .cons r t => .cons r (als_map t)
theorem als1 {T : Ty} {vs : List V} {H : Hp} (h : Als [T] vs H) : ∃ v, vs = [v] ∧ T.r v H := by
  cases h with
  | cons r t => cases t; exact ⟨_, rfl, r⟩
theorem als2 {T U : Ty} {vs : List V} {H : Hp} (h : Als [T, U] vs H) : ∃ v w, vs = [v, w] ∧ T.r v H ∧ U.r w H := by
  cases h with
  | cons r t => obtain ⟨w, rfl, q⟩ := als1 t; exact ⟨_, w, rfl, r, q⟩
theorem als3 {T U S : Ty} {vs : List V} {H : Hp} (h : Als [T, U, S] vs H) : ∃ v w z, vs = [v, w, z] ∧ T.r v H ∧ U.r w H ∧ S.r z H := by
  cases h with
  | cons r t => obtain ⟨w, z, rfl, q⟩ := als2 t; exact ⟨_, w, z, rfl, r, q⟩
theorem als_drop {Ts : List Ty} {vs : List V} {H : Hp} (h : Als Ts vs H) : ∀ n, Als (Ts.drop n) (vs.drop n) H := by
  induction h with
  | nil => intro n; simp; exact .nil
  | cons r t ih => intro n; cases n with
    | zero => exact .cons r t
    | succ n => exact ih n
theorem als_take {Ts : List Ty} {vs : List V} {H : Hp} (h : Als Ts vs H) : ∀ n, Als (Ts.take n) (vs.take n) H := by
  induction h with
  | nil => intro n; simp; exact .nil
  | cons r t ih => intro n; cases n with
    | zero => exact .nil
    | succ n => exact .cons r (ih n)
theorem als_set {Ts : List Ty} {vs : List V} {H : Hp} (h : Als Ts vs H) {T : Ty} {v : V} (r' : T.r v H) : ∀ i, Als (Ts.set i T) (vs.set i v) H := by
  induction h with
  | nil => intro n; exact .nil
  | cons r t ih => intro n; cases n with
    | zero => exact .cons r' t
    | succ n => exact .cons r (ih n)
theorem als_rev {Ts : List Ty} {vs : List V} {H : Hp} (h : Als Ts vs H) : Als Ts.reverse vs.reverse H := by
  induction h with
  | nil => exact .nil
  | cons r t ih => rw [List.reverse_cons, List.reverse_cons]; exact Paired.app ih (.cons r .nil)
/-! ### dicts of texts -/
section
variable {α β : Type}
def dget (fs : List (Str × α)) (x : Str) : Option α := (fs.find? fun p => decide (p.1 = x)).map (·.2)
def dput (fs : List (Str × α)) (x : Str) (a : α) : List (Str × α) :=
  if (fs.any fun p => decide (p.1 = x)) = true then fs.map (fun p => if p.1 = x then (p.1, a) else p) else fs ++ [(x, a)]
abbrev vmap (R : α → β) (fs : List (Str × α)) : List (Str × β) := fs.map fun p => (p.1, R p.2)
theorem dget_cons (p : Str × α) (fs : List (Str × α)) (x : Str) : dget (p :: fs) x = if p.1 = x then some p.2 else dget fs x := by
  unfold dget
  rw [List.find?_cons]
  by_cases h : p.1 = x
  · simp [h]
  · simp [h]
theorem dget_vmap (R : α → β) (x : Str) : ∀ fs : List (Str × α), dget (vmap R fs) x = (dget fs x).map R
  | [] => rfl
  | p :: fs => by
    show dget ((p.1, R p.2) :: vmap R fs) x = _
    rw [dget_cons, dget_cons, dget_vmap R x fs]
    split <;> rfl
theorem dput_vmap (R : α → β) (x : Str) (a : α) (fs : List (Str × α)) : dput (vmap R fs) x (R a) = vmap R (dput fs x a) := by
  have e : ((vmap R fs).any fun p => decide (p.1 = x)) = (fs.any fun p => decide (p.1 = x)) := by
    unfold vmap
    rw [List.any_map]; rfl
  unfold dput
  rw [e]
  split
  · unfold vmap
    rw [List.map_map, List.map_map]
    refine List.map_congr_left fun p _ => ?_
    show (if p.1 = x then (p.1, R a) else (p.1, R p.2)) = _
    by_cases h : p.1 = x
    · simp [h]
    · simp [h]
  · simp [vmap]
end
theorem kvs_get {fs : List (Str × Ty)} {ks : List (Key × V)} {H : Hp} (h : Kvs fs ks H) (x : Str) : (∀ T, dget fs x = some T → ∃ v, valV ks (Sum.inr x) = some v ∧ T.r v H) ∧ (dget fs x = none → valV ks (Sum.inr x) = none) := by
  induction h with
  | nil => exact ⟨fun T e => (by cases e), fun _ => rfl⟩
  | @cons p q fs ks r t ih =>
    obtain ⟨r1, r2⟩ := r
    rw [dget_cons]
    by_cases hx : p.1 = x
    · rw [if_pos hx, valV_pos (by rw [r1, hx])]
      exact ⟨fun T e => (by cases e; exact ⟨_, rfl, r2⟩), fun e => (by cases e)⟩
    · rw [if_neg hx, valV_neg (by rw [r1]; intro z; exact hx (Sum.inr.inj z))]
      exact ih
theorem kvs_put {fs : List (Str × Ty)} {ks : List (Key × V)} {H : Hp} (h : Kvs fs ks H) (x : Str) {T : Ty} {v : V} (r : T.r v H) : Kvs (dput fs x T) (putK ks (Sum.inr x) v) H := by
  have ea : ∀ {fs : List (Str × Ty)} {ks : List (Key × V)}, Kvs fs ks H → (fs.any fun p => decide (p.1 = x)) = (ks.any fun kv => decide (kv.1 = (Sum.inr x : Key))) := fun {fs ks} h => by
    induction h with
    | nil => rfl
    | @cons p q fs ks r t ih =>
      rw [List.any_cons, List.any_cons, ih, r.1, key_rr]
  have em : ∀ {fs : List (Str × Ty)} {ks : List (Key × V)}, Kvs fs ks H → Kvs (fs.map fun p => if p.1 = x then (p.1, T) else p) (ks.map fun kv => if kv.1 = (Sum.inr x : Key) then (kv.1, v) else kv) H := fun {fs ks} h => by
    induction h with
    | nil => exact .nil
    | @cons p q fs ks r' t ih =>
      refine .cons ?_ ih
      dsimp only
      by_cases hx : p.1 = x
      · rw [if_pos hx, if_pos (by rw [r'.1, hx])]; exact ⟨r'.1, r⟩
      · rw [if_neg hx, if_neg (by rw [r'.1]; intro z; exact hx (Sum.inr.inj z))]; exact r'
  unfold dput putK
  rw [ea h]
  split
  · exact em h
  · exact Paired.app h (.cons ⟨rfl, r⟩ .nil)
theorem kvs_len {fs : List (Str × Ty)} {ks : List (Key × V)} {H : Hp} (h : Kvs fs ks H) : fs.length = ks.length := Paired.length h
theorem kvs_keys {fs : List (Str × Ty)} {ks : List (Key × V)} {H : Hp} (h : Kvs fs ks H) : ks.map (·.1) = (fs.map (·.1)).map Sum.inr := by
  induction h with
  | nil => rfl
  | cons r t ih => rw [List.map_cons, List.map_cons, List.map_cons, r.1, ih]
theorem kvs_vals {fs : List (Str × Ty)} {ks : List (Key × V)} {H : Hp} (h : Kvs fs ks H) : Als (fs.map (·.2)) (ks.map (·.2)) H := by
  induction h with
  | nil => exact .nil
  | cons r t ih => exact .cons r.2 ih
theorem fls_get {fs : List (Str × Ty)} {vs : List (Str × V)} {H : Hp} (h : Fls fs vs H) {f : Str} {T : Ty} (e : fs.lookup f = some T) : ∃ v, vs.lookup f = some v ∧ T.r v H := by
  induction h with
  | nil => cases e
  | @cons p q fs vs r t ih =>
    obtain ⟨pf, pT⟩ := p
    obtain ⟨qf, qv⟩ := q
    have r1 : qf = pf := r.1
    subst r1
    rw [List.lookup_cons] at e ⊢
    cases hb : f == qf with
    | true => rw [hb] at e; cases e; exact ⟨qv, rfl, r.2⟩
    | false => rw [hb] at e; exact ih e
theorem fls_none {fs : List (Str × Ty)} {vs : List (Str × V)} {H : Hp} (h : Fls fs vs H) {f : Str} (e : fs.lookup f = none) : vs.lookup f = none := by
  induction h with
  | nil => rfl
  | @cons p q fs vs r t ih =>
    obtain ⟨pf, pT⟩ := p
    obtain ⟨qf, qv⟩ := q
    have r1 : qf = pf := r.1
    subst r1
    rw [List.lookup_cons] at e ⊢
    cases hb : f == qf with
    | true => rw [hb] at e; cases e
    | false => rw [hb] at e; exact ih e
def fput (f : Str) (T : Ty) : List (Str × Ty) → List (Str × Ty)
  | [] => [(f, T)]
  | (g, x) :: r => if g = f then (g, T) :: r else (g, x) :: fput f T r
theorem fls_put {fs : List (Str × Ty)} {vs : List (Str × V)} {H : Hp} (h : Fls fs vs H) {f : Str} {T : Ty} {v : V} (r : T.r v H) : Fls (fput f T fs) (putF f v vs) H := by
  induction h with
  | nil => exact .cons ⟨rfl, r⟩ .nil
  | @cons p q fs vs r' t ih =>
    obtain ⟨pf, pT⟩ := p
    obtain ⟨qf, qv⟩ := q
    have r1 : qf = pf := r'.1
    subst r1
    unfold fput putF
    split
    · exact .cons ⟨rfl, r⟩ t
    · exact .cons r' ih
theorem fls_len {fs : List (Str × Ty)} {vs : List (Str × V)} {H : Hp} (h : Fls fs vs H) : fs.length = vs.length := Paired.length h

section
variable {X : Cx} {B : Bs} {Γ : Gm} {W : Wl} {a b c e o : Expr} {es : List Expr} {pos pos' apos p : Pos} {R Ra Rb T : Ty} {Ts Us : List Ty} {K : Con} {x f : Str} {fs : List (Str × Ty)} {Cl : Addr} {i j : Int}
/-! ### containers that are read -/
theorem Lv.core (h : Ev X B Γ W e (tyObj K)) : Lv X B Γ W e K := fun σ C H S Q k => h σ C H S Q fun v C1 H1 s1 E1 ⟨p, o, ev, hp, r⟩ => by
  subst ev
  exact k p C1 H1 s1 E1 fun C2 H2 s2 E2 => ⟨o, E2.ch p o (s2 p o hp), K.mono s2 r⟩
theorem Lv.own {p : Addr} (n : Nat) (h : Ev X B Γ W e (tyP p)) (hj : W[n]? = some (p, K)) : Lv X B Γ W e K := fun σ C H S Q k => h σ C H S Q fun v C1 H1 s1 E1 r => by
  cases r
  exact k p C1 H1 s1 E1 fun C2 H2 s2 E2 => let ⟨o, h1, _, h2⟩ := E2.look hj; ⟨o, .inl h1, h2⟩
theorem Lv.frame {p : Addr} {o : HO} (h : Ev X B Γ W e (tyP p)) (hg : B.g p = some o) (hk : K.r o B.c) : Lv X B Γ W e K := fun σ C H S Q k => h σ C H S Q fun v C1 H1 s1 E1 r => by
  cases r
  refine k p C1 H1 s1 E1 fun C2 H2 s2 ⟨G, E2⟩ => ⟨o, .inl (E2.gh _ _ (E2.g0 _ _ hg)), K.mono E2.cc hk⟩
theorem ixl (h : Lv X B Γ W a (cLst Ts)) (hi : Ev X B Γ W b (tyI i)) (ht : atI Ts i = some T) (hs : PlainIx b := by exact fun _ _ => rfl) : Ev X B Γ W (.Subscript a b pos) T := fun σ C H S Q k =>
  toE (pe_ix ix_list pe_s pe_s hs) (h σ C H S _ fun p C1 H1 s1 E1 g => hi σ C1 H1 (S.go s1 E1) _ fun y C2 H2 s2 E2 r2 => by
    obtain ⟨o, ho, vs, rfl, al⟩ := g C2 H2 s2 E2
    obtain ⟨v, hv, r⟩ := als_ati al ht
    exact ⟨p, vs, i, v, rfl, r2, SqL.of (at_lst ho), hv, k v C2 H2 (s1.trans s2) E2 r⟩)
theorem ixt (h : Lv X B Γ W a (cTup Ts)) (hi : Ev X B Γ W b (tyI i)) (ht : atI Ts i = some T) (hs : PlainIx b := by exact fun _ _ => rfl) : Ev X B Γ W (.Subscript a b pos) T := fun σ C H S Q k =>
  toE (pe_ix ix_tup pe_s pe_s hs) (h σ C H S _ fun p C1 H1 s1 E1 g => hi σ C1 H1 (S.go s1 E1) _ fun y C2 H2 s2 E2 r2 => by
    obtain ⟨o, ho, vs, rfl, al⟩ := g C2 H2 s2 E2
    obtain ⟨v, hv, r⟩ := als_ati al ht
    exact ⟨p, vs, i, v, rfl, r2, SqT.of (at_tup ho), hv, k v C2 H2 (s1.trans s2) E2 r⟩)
/-- a place that is told by its bounds alone -/
theorem ixlEx {P : Int → Prop} {α : Type} {R : α → Ty} {xs : List α} (h : Lv X B Γ W a (cLst (xs.map R))) (hi : Ev X B Γ W b (tyEx P tyI)) (hP : ∀ i, P i → 0 ≤ i ∧ i < xs.length) (hs : PlainIx b := by exact fun _ _ => rfl) :
    Ev X B Γ W (.Subscript a b pos) (tyEx (· ∈ xs) R) := fun σ C H S Q k =>
  toE (pe_ix ix_list pe_s pe_s hs) (h σ C H S _ fun p C1 H1 s1 E1 g => hi σ C1 H1 (S.go s1 E1) _ fun y C2 H2 s2 E2 ⟨i, hi, r2⟩ => by
    obtain ⟨o, ho, vs, rfl, al⟩ := g C2 H2 s2 E2
    obtain ⟨h0, h1⟩ := hP i hi
    obtain ⟨n, rfl⟩ : ∃ n : Nat, i = n := ⟨i.toNat, by omega⟩
    have hl : n < xs.length := by omega
    have ht : (xs.map R)[n]? = some (R xs[n]) := by rw [List.getElem?_map, List.getElem?_eq_getElem hl]; rfl
    obtain ⟨v, hv, r⟩ := als_at al ht
    exact ⟨p, vs, n, v, rfl, r2, SqL.of (at_lst ho), atI_nat hv, k v C2 H2 (s1.trans s2) E2 ⟨_, List.getElem_mem hl, r⟩⟩)
theorem ixsEx {P : Int → Prop} {z : Str} (h : Ev X B Γ W a (tyS z)) (hi : Ev X B Γ W b (tyEx P tyI)) (hz : z.length ≤ sizeLine) (hP : ∀ i, P i → 0 ≤ i ∧ i < z.length) (hs : PlainIx b := by exact fun _ _ => rfl) :
    Ev X B Γ W (.Subscript a b pos) (tyEx (fun y : Str => y.length = 1) tyS) := fun σ C H S Q k =>
  toE (pe_ix ix_str pe_s pe_s hs) (h σ C H S _ fun v C1 H1 s1 E1 r1 => hi σ C1 H1 (S.go s1 E1) _ fun y C2 H2 s2 E2 ⟨i, hi, r2⟩ => by
    obtain ⟨h0, h1⟩ := hP i hi
    obtain ⟨n, rfl⟩ : ∃ n : Nat, i = n := ⟨i.toNat, by omega⟩
    have hl : n < z.cps.toList.length := by have : z.length = z.cps.toList.length := (Array.length_toList).symm; omega
    exact ⟨z, n, z.cps.toList[n], r1, r2, hz, atI_nat (List.getElem?_eq_getElem hl), k _ C2 H2 (s1.trans s2) E2 ⟨_, rfl, rfl⟩⟩)
/-! slices -/
def Po (X : Cx) (B : Bs) (Γ : Gm) (W : Wl) (e : Option Expr) (l : Option Int) : Prop := ∃ t, PO X e t ∧ ∀ (σ : L2.St) (C H : Hp), Stt B Γ W σ C H → ∀ Q : Option Int → Hp → Prop, (∀ C' H', Same C C' → EntE B C' W H' → Q l H') → t σ H Q
theorem Po.none : Po X B Γ W none none := ⟨_, po_none, fun σ C H S Q k => k C H (Same.refl _) S.en⟩
theorem Po.some (h : Ev X B Γ W e (tyI i)) : Po X B Γ W (some e) (some i) := ⟨_, po_some pe_s, fun σ C H S Q k => h σ C H S _ fun v C1 H1 s1 E1 r => ⟨i, r, k C1 H1 s1 E1⟩⟩
def cutA {α : Type} (xs : List α) (lo hi : Option Int) : List α := (xs.drop (HT.sIx xs.length 0 lo)).take (HT.sIx xs.length xs.length hi - HT.sIx xs.length 0 lo)
theorem cutA_map {α β : Type} (g : α → β) (xs : List α) (lo hi : Option Int) : cutA (xs.map g) lo hi = (cutA xs lo hi).map g := by
  unfold cutA
  rw [List.length_map, List.map_take, List.map_drop]
theorem slicel {lo hi : Option Expr} {l u : Option Int} {p2 : Pos} (h : Ev X B Γ W a (tyLst Ts)) (hl : Po X B Γ W lo l) (hu : Po X B Γ W hi u) : Ev X B Γ W (.Subscript a (.Slice lo hi none p2) pos) (tyLst (cutA Ts l u)) := fun σ C H S Q k => by
  obtain ⟨tl, pl, ql⟩ := hl
  obtain ⟨tu, pu, qu⟩ := hu
  refine toE (pe_slice sl_list pe_s pl pu) (h σ C H S _ fun v C1 H1 s1 E1 r1 => ql σ C1 H1 (S.go s1 E1) _ fun C2 H2 s2 E2 => qu σ C2 H2 (S.go (s1.trans s2) E2) _ fun C3 H3 s3 E3 => ?_)
  obtain ⟨p, vs, rfl, _, hp, al⟩ := getL E3 ((tyLst Ts).mono (s2.trans s3) r1)
  refine ⟨p, vs, rfl, SqL.of hp, newObj (K := cLst (cutA Ts l u)) E3 (kup k (s1.trans (s2.trans s3))) ⟨_, rfl, ?_⟩⟩
  unfold cutV cutA
  rw [← Paired.length al]
  exact als_take (als_drop al _) _
/-! dicts -/
theorem dgetE (h : Lv X B Γ W a (cD fs)) (hi : Ev X B Γ W b (tyS x)) (ht : dget fs x = some T) (hu : X.A.units + 1 < cLine) (hs : NoSl b := by exact fun _ _ => rfl) : Ev X B Γ W (.Subscript a b pos) T := fun σ C H S Q k =>
  toE (pe_dget hu pe_s pe_s hs) (h σ C H S _ fun p C1 H1 s1 E1 g => hi σ C1 H1 (S.go s1 E1) _ fun y C2 H2 s2 E2 r2 => by
    obtain ⟨o, ho, ks, rfl, al⟩ := g C2 H2 s2 E2
    obtain ⟨v, hv, r⟩ := (kvs_get al x).1 T ht
    cases r2
    exact ⟨p, v, rfl, .inl ⟨ks, Sum.inr x, at_dK ho, rfl, hv.symm⟩, k v C2 H2 (s1.trans s2) E2 r⟩)
theorem kvs_isSome {ks : List (Key × V)} {H : Hp} (h : Kvs fs ks H) (x : Str) : (valV ks (Sum.inr x)).isSome = (dget fs x).isSome := by
  cases hd : dget fs x with
  | none => rw [(kvs_get h x).2 hd]; rfl
  | some T => obtain ⟨v, hv, _⟩ := (kvs_get h x).1 T hd; rw [hv]; rfl
theorem Tv.din (hi : Ev X B Γ W a (tyS x)) (h : Lv X B Γ W b (cD fs)) (hu : X.A.units + 1 < cLine) (hm : behindInMarks .In b = false := by with_unfolding_all rfl) : Tv X B Γ W (.Compare a [.In] [b] pos) (· = (dget fs x).isSome) := fun σ C H S Q k =>
  toT (pt_cmp (pc_din hu pe_s pe_s) hm) (hi σ C H S _ fun y C1 H1 s1 E1 r1 => h σ C1 H1 (S.go s1 E1) _ fun p C2 H2 s2 E2 g => by
    obtain ⟨o, ho, ks, rfl, al⟩ := g C2 H2 (Same.refl _) E2
    cases r1
    exact ⟨p, _, rfl, .inl ⟨ks, Sum.inr x, at_dK ho, rfl, rfl⟩, _, rfl, k _ C2 H2 (s1.trans s2) E2 (kvs_isSome al x)⟩)
theorem Tv.dnotin (hi : Ev X B Γ W a (tyS x)) (h : Lv X B Γ W b (cD fs)) (hu : X.A.units + 1 < cLine) (hm : behindInMarks .NotIn b = false := by with_unfolding_all rfl) : Tv X B Γ W (.Compare a [.NotIn] [b] pos) (· = !(dget fs x).isSome) := fun σ C H S Q k =>
  toT (pt_cmp (pc_dnotin hu pe_s pe_s) hm) (hi σ C H S _ fun y C1 H1 s1 E1 r1 => h σ C1 H1 (S.go s1 E1) _ fun p C2 H2 s2 E2 g => by
    obtain ⟨o, ho, ks, rfl, al⟩ := g C2 H2 (Same.refl _) E2
    cases r1
    exact ⟨p, _, rfl, .inl ⟨ks, Sum.inr x, at_dK ho, rfl, rfl⟩, _, rfl, k _ C2 H2 (s1.trans s2) E2 (by rw [kvs_isSome al x])⟩)
/-- d.get(k, z) -/
theorem dget2E {cpos : Pos} (h : Lv X B Γ W o (cD fs)) (hi : Ev X B Γ W a (tyS x)) (hz : Ev X B Γ W b T) (ht : ∀ U, (dget fs x).getD T = U → U = R) (hu : X.A.units + 1 < cLine) (m : M2 X o "get" apos a b cpos) : Ev X B Γ W (.Call (.Attribute o "get" apos) [a, b] [] cpos) R := fun σ C H S Q k =>
  toE (pe_dget2 hu pe_s pe_s pe_s m) (h σ C H S _ fun p C1 H1 s1 E1 g => by
    obtain ⟨o1, ho1, ks1, rfl, al1⟩ := g C1 H1 (Same.refl _) E1
    refine ⟨p, rfl, .inl ⟨ks1, at_dK ho1⟩, hi σ C1 H1 (S.go s1 E1) _ fun y C2 H2 s2 E2 r2 => hz σ C2 H2 (S.go (s1.trans s2) E2) _ fun z C3 H3 s3 E3 r3 => ?_⟩
    obtain ⟨o, ho, ks, rfl, al⟩ := g C3 H3 (s2.trans s3) E3
    cases r2
    refine ⟨_, .inl ⟨ks, Sum.inr x, at_dK ho, rfl, rfl⟩, k _ C3 H3 (s1.trans (s2.trans s3)) E3 ?_⟩
    have e := ht _ rfl
    rw [← e]
    cases hd : dget fs x with
    | none => rw [(kvs_get al x).2 hd]; exact r3
    | some U => obtain ⟨v, hv, r⟩ := (kvs_get al x).1 U hd; rw [hv]; exact r)
/-! fields -/
theorem Ev.fld (h : Lv X B Γ W e (cIns Cl fs)) (c : Cls X.K Cl) (n : NoAttr X.K Cl f) (ht : fs.lookup f = some T := by rfl) (hb : attributeBase e f X.env (eval e X.env) = eval e X.env := by rfl) : Ev X B Γ W (.Attribute e f pos) T := fun σ C H S Q k =>
  toE (pe_fld pe_s hb) (h σ C H S _ fun p C1 H1 s1 E1 g => by
    obtain ⟨o, ho, dx, vs, rfl, al⟩ := g C1 H1 (Same.refl _) E1
    obtain ⟨v, hv, r⟩ := fls_get al ht
    exact ⟨p, Cl, dx, vs, v, rfl, at_ins ho, c, n, hv, k v C1 H1 s1 E1 r⟩)
/-! ### built-ins -/
theorem Ev.bi {id : String} {r : List V → Hp → VK → Prop} (hc : CallR X (.builtin id) r) (hm : X.mg x = none) (hv : bootBuiltins x = some (.builtin id)) (ha : As X B Γ W (e :: es) Ts) (f : ∀ vs C H Q, EntE B C W H → Als Ts vs C → Kn B W C R Q → r vs H Q)
    (hg : Gl X x := by rfl) (hn : x ≠ "__name__" := by decide) (hdb : (x == ("__debug__" : Str)) = false := by decide)
    (he : starEach (e :: es) X.env = (false, eval e X.env) :: starEach es X.env := by rfl) (hpl : (backTo pos (starEach es X.env)).any (·.1) = false := by rfl) : Ev X B Γ W (.Call (.Name x p) (e :: es) [] pos) R := fun σ C H S Q k =>
  toE (pe_callB hc hg hm hv pa_s hn hdb he hpl) (show tCB r (sA X (e :: es)) σ H Q from fun pos pins s I => ha σ C H S _ (fun vs C1 H1 s1 E1 al => f vs C1 H1 Q E1 al (kup k s1)) pos pins s I)
theorem Ev.bt {id : String} {r : List V → Hp → VK → Prop} (hc : CallR X (.type id) r) (hm : X.mg x = none) (hv : bootBuiltins x = some (.type id)) (ha : As X B Γ W (e :: es) Ts) (f : ∀ vs C H Q, EntE B C W H → Als Ts vs C → Kn B W C R Q → r vs H Q)
    (hg : Gl X x := by rfl) (hn : x ≠ "__name__" := by decide) (hdb : (x == ("__debug__" : Str)) = false := by decide)
    (he : starEach (e :: es) X.env = (false, eval e X.env) :: starEach es X.env := by rfl) (hpl : (backTo pos (starEach es X.env)).any (·.1) = false := by rfl) : Ev X B Γ W (.Call (.Name x p) (e :: es) [] pos) R := fun σ C H S Q k =>
  toE (pe_callTy hc hg hm hv pa_s hn hdb he hpl) (show tCB r (sA X (e :: es)) σ H Q from fun pos pins s I => ha σ C H S _ (fun vs C1 H1 s1 E1 al => f vs C1 H1 Q E1 al (kup k s1)) pos pins s I)
/-- one argument, a container that is read -/
theorem Ev.biL {id : String} {r : List V → Hp → VK → Prop} (hc : CallR X (.builtin id) r) (hm : X.mg x = none) (hv : bootBuiltins x = some (.builtin id)) (ha : Lv X B Γ W e K) (f : ∀ p o C H Q, EntE B C W H → At1 H p o → K.r o C → Kn B W C R Q → r [.ref p] H Q)
    (hg : Gl X x := by rfl) (hn : x ≠ "__name__" := by decide) (hdb : (x == ("__debug__" : Str)) = false := by decide)
    (he : starEach [e] X.env = (false, eval e X.env) :: starEach [] X.env := by rfl) (hpl : (backTo pos (starEach [] X.env)).any (·.1) = false := by rfl) : Ev X B Γ W (.Call (.Name x p) [e] [] pos) R := fun σ C H S Q k =>
  toE (pe_callB hc hg hm hv (pa_cons pe_s pa_nil he) hn hdb he hpl) (show tCB r (tCons (sE X e) tNil) σ H Q from ha σ C H S _ fun p C1 H1 s1 E1 g => let ⟨o, h1, h2⟩ := g C1 H1 (Same.refl _) E1; f p o C1 H1 Q E1 h1 h2 (kup k s1))
theorem Ev.btL {id : String} {r : List V → Hp → VK → Prop} (hc : CallR X (.type id) r) (hm : X.mg x = none) (hv : bootBuiltins x = some (.type id)) (ha : Lv X B Γ W e K) (f : ∀ p o C H Q, EntE B C W H → At1 H p o → K.r o C → Kn B W C R Q → r [.ref p] H Q)
    (hg : Gl X x := by rfl) (hn : x ≠ "__name__" := by decide) (hdb : (x == ("__debug__" : Str)) = false := by decide)
    (he : starEach [e] X.env = (false, eval e X.env) :: starEach [] X.env := by rfl) (hpl : (backTo pos (starEach [] X.env)).any (·.1) = false := by rfl) : Ev X B Γ W (.Call (.Name x p) [e] [] pos) R := fun σ C H S Q k =>
  toE (pe_callTy hc hg hm hv (pa_cons pe_s pa_nil he) hn hdb he hpl) (show tCB r (tCons (sE X e) tNil) σ H Q from ha σ C H S _ fun p C1 H1 s1 E1 g => let ⟨o, h1, h2⟩ := g C1 H1 (Same.refl _) E1; f p o C1 H1 Q E1 h1 h2 (kup k s1))
theorem lenL (hm : X.mg "len" = none) (h : Lv X B Γ W e (cLst Ts)) (hg : Gl X "len" := by rfl) (he : starEach [e] X.env = (false, eval e X.env) :: starEach [] X.env := by rfl) (hpl : (backTo pos (starEach [] X.env)).any (·.1) = false := by rfl) : Ev X B Γ W (.Call (.Name "len" p) [e] [] pos) (tyI Ts.length) :=
  Ev.biL call_len_seq hm PySem.boot_len h (fun p o C H Q E h1 ⟨vs, eo, al⟩ k => by subst eo; exact ⟨p, vs, rfl, .inl (SqL.of (at_lst h1)), by rw [← Paired.length al]; exact k _ C H (Same.refl _) E rfl⟩) hg (by decide) (by decide) he hpl
theorem lenT (hm : X.mg "len" = none) (h : Lv X B Γ W e (cTup Ts)) (hg : Gl X "len" := by rfl) (he : starEach [e] X.env = (false, eval e X.env) :: starEach [] X.env := by rfl) (hpl : (backTo pos (starEach [] X.env)).any (·.1) = false := by rfl) : Ev X B Γ W (.Call (.Name "len" p) [e] [] pos) (tyI Ts.length) :=
  Ev.biL call_len_seq hm PySem.boot_len h (fun p o C H Q E h1 ⟨vs, eo, al⟩ k => by subst eo; exact ⟨p, vs, rfl, .inr (SqT.of (at_tup h1)), by rw [← Paired.length al]; exact k _ C H (Same.refl _) E rfl⟩) hg (by decide) (by decide) he hpl
end
end MJ
set_option maxHeartbeats 4000000
/-! Typed rules: targets, walks, comprehensions. -/
namespace MJ
open PySem PySem.Spec L2
open PyProof.Rows hiding St
/-! ### targets -/
def setG (Γ : Gm) : List Nat → List Ty → Gm
  | i :: is, T :: Ts => setG (Γ.set i (some T)) is Ts
  | _, _ => Γ
def setS (σ : L2.St) : List Nat → List V → L2.St
  | i :: is, v :: vs => setS (σ.set i (some v)) is vs
  | _, _ => σ
theorem sl_set {C : Hp} {Ts : List Ty} {vs : List V} (al : Als Ts vs C) : ∀ {is : List Nat} {Γ : Gm} {σ : L2.St}, Sl Γ σ C → Sl (setG Γ is Ts) (setS σ is vs) C := by
  induction al with
  | nil => intro is Γ σ h; cases is <;> exact h
  | cons r t ih =>
    intro is Γ σ h
    cases is with
    | nil => exact h
    | cons i is => exact ih (is := is) (Sl.set i h r)
def wipeG (Γ : Gm) : List Nat → Gm
  | [] => Γ
  | v :: vs => (wipeG Γ vs).set v none
theorem sl_none {C : Hp} {Γ : Gm} {σ : L2.St} (i : Nat) (h : Sl Γ σ C) : Sl (Γ.set i none) (σ.set i none) C := by
  refine ⟨by rw [List.length_set, List.length_set]; exact h.1, fun j U e => ?_⟩
  by_cases ij : j = i
  · subst ij
    have hl := (List.getElem?_eq_some_iff.mp e).1
    rw [List.length_set] at hl
    rw [List.getElem?_set_self hl] at e
    cases e
  · rw [List.getElem?_set_ne (Ne.symm ij)] at e ⊢
    exact h.2 j U e
theorem sl_wipe {C : Hp} {Γ : Gm} {σ : L2.St} (h : Sl Γ σ C) : ∀ vs : List Nat, Sl (wipeG Γ vs) (wipe σ vs) C
  | [] => h
  | v :: vs => sl_none v (sl_wipe h vs)
theorem wipe_set {σ : L2.St} {i : Nat} {v : Option V} : ∀ {vs : List Nat}, i ∈ vs → wipe (σ.set i v) vs = wipe σ vs
  | [], h => by simp at h
  | j :: vs, h => by
    unfold wipe
    by_cases hi : i ∈ vs
    · rw [wipe_set hi]
    · have e : i = j := by rcases List.mem_cons.mp h with e | e; exact e; exact absurd e hi
      subst e
      have : ∀ {vs : List Nat}, i ∉ vs → wipe (σ.set i v) vs = (wipe σ vs).set i v := fun {vs} hn => by
        induction vs with
        | nil => rfl
        | cons k ks ih =>
          have h1 : i ≠ k := fun z => hn (by rw [z]; exact List.mem_cons_self)
          show (wipe (σ.set i v) ks).set k none = ((wipe σ ks).set k none).set i v
          rw [ih fun z => hn (List.mem_cons_of_mem _ z), List.set_comm _ _ h1]
      rw [this hi, List.set_set]
theorem wipe_wipe {σ : L2.St} : ∀ {vs ws : List Nat}, (∀ i ∈ ws, i ∈ vs) → wipe (wipe σ ws) vs = wipe σ vs
  | vs, [], _ => rfl
  | vs, w :: ws, h => by
    show wipe ((wipe σ ws).set w none) vs = _
    rw [wipe_set (h w List.mem_cons_self), wipe_wipe fun i hi => h i (List.mem_cons_of_mem _ hi)]
theorem wipe_setS {vs : List Nat} : ∀ {is : List Nat} {ws : List V} {σ : L2.St}, (∀ i ∈ is, i ∈ vs) → wipe (setS σ is ws) vs = wipe σ vs
  | [], ws, σ, _ => by cases ws <;> rfl
  | i :: is, [], σ, _ => rfl
  | i :: is, w :: ws, σ, h => by
    show wipe (setS (σ.set i (some w)) is ws) vs = _
    rw [wipe_setS fun j hj => h j (List.mem_cons_of_mem _ hj), wipe_set (h i List.mem_cons_self)]
/-- the target tg takes a value of the type T: slots and their types -/
def Gv (X : Cx) (tg : Expr) (T : Ty) (is : List Nat) (Ts : List Ty) : Prop := ∃ g, PG X tg g ∧ ∀ (B : Bs) (W : Wl) (σ : L2.St) (C H : Hp) (v : V) (Q : L2.St → Hp → Prop), EntE B C W H → T.r v C → (∀ vs, Als Ts vs C → Q (setS σ is vs) H) → g v σ H Q
def GvS (X : Cx) (tgs : List Expr) (is : List Nat) (Ts : List Ty) : Prop := ∃ g, PGs X tgs g ∧ ∀ (vs : List V) (σ : L2.St) (H : Hp) (Q : L2.St → Hp → Prop), vs.length = Ts.length → is.length = Ts.length → Q (setS σ is vs) H → g vs σ H Q
section
variable {X : Cx} {B : Bs} {Γ : Gm} {W : Wl} {a b c e o tg : Expr} {es tgs : List Expr} {pos pos' apos p : Pos} {R Ra Rb T : Ty} {Ts Us : List Ty} {K : Con} {x f : Str} {fs : List (Str × Ty)} {Cl : Addr} {i j : Int}
theorem gName (i : Nat) (nd : X.N.Nodup) (hi : X.N[i]? = some x := by rfl) (hx : Loc X.env.scope x := by first | exact Or.inl rfl | exact Or.inr rfl) (hf : X.fn x = true ∨ X.env.scope.names.lookup x = some .local := by first | exact .inl rfl | exact .inr rfl) : Gv X (.Name x pos) T [i] [T] :=
  ⟨_, pg_name nd hi hx hf, fun B W σ C H v Q E r k => k [v] (.cons r .nil)⟩
theorem gNil : GvS X [] [] [] := ⟨_, pgs_nil, fun vs σ H Q hl _ k => ⟨List.length_eq_zero_iff.mp hl, by
  have e : vs = [] := List.length_eq_zero_iff.mp hl
  subst e; exact k⟩⟩
theorem gCons (i : Nat) {is : List Nat} {T : Ty} (nd : X.N.Nodup) (h : GvS X tgs is Ts) (hi : X.N[i]? = some x := by rfl) (hx : Loc X.env.scope x := by first | exact Or.inl rfl | exact Or.inr rfl) (hf : X.fn x = true ∨ X.env.scope.names.lookup x = some .local := by first | exact .inl rfl | exact .inr rfl)
    (hs : (assignEach (.Name x pos :: tgs) X.env).map (·.2) = assign (.Name x pos) X.env :: (assignEach tgs X.env).map (·.2) := by rfl) : GvS X (.Name x pos :: tgs) (i :: is) (T :: Ts) := by
  obtain ⟨g, hg, q⟩ := h
  refine ⟨_, pgs_cons (pg_name nd hi hx hf) hg hs, fun vs σ H Q hl hl2 k => ?_⟩
  cases vs with
  | nil => simp at hl
  | cons v vs => exact ⟨v, vs, rfl, q vs _ H Q (by simpa using hl) (by simpa using hl2) k⟩
theorem gTup {is : List Nat} {k : Nat} (hc : X.calm = true) (h : GvS X es is Ts) (hn : (assignEach es X.env).length = Ts.length := by rfl) (hst : (assignEach es X.env).findIdx? (·.1) = none := by rfl) (hl : is.length = Ts.length := by rfl) : Gv X (.Tuple es k pos) (tyTup Ts) is Ts := by
  obtain ⟨g, hg, q⟩ := h
  refine ⟨_, pg_tup hc hg hn hst, fun B W σ C H v Q E r k => ?_⟩
  obtain ⟨p, vs, rfl, _, hp, al⟩ := getT E r
  exact ⟨p, vs, rfl, SqT.of hp, (Paired.length al).symm, q vs σ H Q (Paired.length al).symm hl (k vs al)⟩
/-! ### walks -/
structure Wk (B : Bs) (J : It) (C0 : Hp) (Ts : List Ty) : Prop where
  goes : ∀ (i : Nat) (C H : Hp) (W : Wl), i < Ts.length → Same C0 C → EntE B C W H → J.go i H
  stops : ∀ (C H : Hp) (W : Wl), Same C0 C → EntE B C W H → J.stop Ts.length H
  yields : ∀ (i : Nat) (C H : Hp) (W : Wl) (v : V) (H' : Hp) (T : Ty), Ts[i]? = some T → Same C0 C → EntE B C W H → J.yld i H v H' → ∃ C', Same C C' ∧ EntE B C' W H' ∧ T.r v C'
def Iv (X : Cx) (B : Bs) (Γ : Gm) (W : Wl) (tg e : Expr) (Ts : List Ty) : Prop := ∃ wi, PI X tg e wi ∧ ∀ (σ : L2.St) (C H : Hp), Stt B Γ W σ C H → ∀ R : It → Hp → Prop, (∀ J C' H', Same C C' → EntE B C' W H' → Wk B J C' Ts → R J H') → wi σ H R
theorem wk_of {J : It} {n : Nat} {G : Hp → Prop} {Y : Nat → Hp → V → Hp → Prop} {C0 : Hp} (w : Walk J n G Y) (hn : Ts.length = n) (hG : ∀ C H W, Same C0 C → EntE B C W H → G H)
    (hY : ∀ i C H W v H' T, Ts[i]? = some T → Same C0 C → EntE B C W H → Y i H v H' → ∃ C', Same C C' ∧ EntE B C' W H' ∧ T.r v C') : Wk B J C0 Ts :=
  ⟨fun i C H W hi s E => w.goes i H (by omega) (hG C H W s E), fun C H W s E => by rw [hn]; exact w.stops H (hG C H W s E),
   fun i C H W v H' T ht s E y => hY i C H W v H' T ht s E (w.yields i H v H' (by have := (List.getElem?_eq_some_iff.mp ht).1; omega) (hG C H W s E) y)⟩
theorem list_in {C0 C H : Hp} {p : Addr} {vs : List V} (hp : C0 p = some (.lst vs)) (s : Same C0 C) (E : EntE B C W H) : H p = some (.lst vs) := at_lst (E.ch p _ (s p _ hp))
theorem tup_in {C0 C H : Hp} {p : Addr} {vs : List V} (hp : C0 p = some (.tup vs)) (s : Same C0 C) (E : EntE B C W H) : H p = some (.tup vs) := at_tup (E.ch p _ (s p _ hp))
theorem yAt {C0 C H H' : Hp} {vs : List V} {i : Nat} {v : V} {T : Ty} (al : Als Ts vs C0) (ht : Ts[i]? = some T) (s : Same C0 C) (E : EntE B C W H) (y : YAt vs i H v H') : ∃ C', Same C C' ∧ EntE B C' W H' ∧ T.r v C' := by
  obtain ⟨rfl, e⟩ := y
  obtain ⟨v', e', r⟩ := als_at al ht
  rw [e] at e'; cases e'
  exact ⟨C, Same.refl _, E, T.mono s r⟩
theorem Iv.list (h : Ev X B Γ W e (tyLst Ts)) : Iv X B Γ W tg e Ts := ⟨_, pi_list pe_s, fun σ C H S R k => h σ C H S _ fun v C1 H1 s1 E1 r => by
  obtain ⟨p, vs, rfl, hc, hp, al⟩ := getL E1 r
  exact ⟨p, rfl, ⟨vs, SqL.of hp⟩, k _ C1 H1 s1 E1 (wk_of walk_list (Paired.length al) (fun C H W s E => SqL.of (list_in hc s E)) fun i C H W v H' T ht s E y => yAt al ht s E y)⟩⟩
theorem Iv.tup (h : Ev X B Γ W e (tyTup Ts)) : Iv X B Γ W tg e Ts := ⟨_, pi_tup pe_s, fun σ C H S R k => h σ C H S _ fun v C1 H1 s1 E1 r => by
  obtain ⟨p, vs, rfl, hc, hp, al⟩ := getT E1 r
  exact ⟨p, rfl, ⟨vs, SqT.of hp⟩, k _ C1 H1 s1 E1 (wk_of walk_tup (Paired.length al) (fun C H W s E => SqT.of (tup_in hc s E)) fun i C H W v H' T ht s E y => yAt al ht s E y)⟩⟩
theorem Iv.range {n : Int} (hm : X.mg "range" = none) (h : Ev X B Γ W e (tyI n)) (hb : n < 2 ^ 62) (h0 : 0 ≤ n) (hg : Gl X "range" := by rfl) (hs : starEach [e] X.env = [(false, eval e X.env)] := by rfl) :
    Iv X B Γ W tg (.Call (.Name "range" p) [e] [] pos) ((List.range n.toNat).map fun k => tyI ((k : Nat) : Int)) := ⟨_, pi_range1 hg hm (pa_cons pe_s pa_nil hs) hs, fun σ C H S R k => by
  refine h σ C H S _ fun v C1 H1 s1 E1 r => ⟨n, by rw [show v = _ from r], by omega, hb, k _ C1 H1 s1 E1 (wk_of walk_range (by simp) (fun _ _ _ _ _ => True.intro) fun i C H W v H' T ht s E y => ?_)⟩
  obtain ⟨rfl, rfl⟩ := y
  rw [List.getElem?_map] at ht
  have hi := (List.getElem?_eq_some_iff.mp (show (List.range n.toNat)[i]? = some i by
    cases z : (List.range n.toNat)[i]? with
    | none => rw [z] at ht; cases ht
    | some w => rw [List.getElem?_eq_some_iff] at z; obtain ⟨_, z⟩ := z; rw [List.getElem_range] at z; rw [z])).1
  rw [List.getElem?_eq_getElem hi, List.getElem_range] at ht
  cases ht
  exact ⟨C, Same.refl _, E, by show V.int (0 + (i : Int)) = V.int (i : Int); rw [Int.zero_add]⟩⟩
/-- pairs with the place -/
def enT (Ts : List Ty) : List Ty := Ts.zipIdx.map fun q => tyTup [tyI ((q.2 : Nat) : Int), q.1]
theorem enT_at {i : Nat} (ht : (enT Ts)[i]? = some T) : ∃ U, Ts[i]? = some U ∧ T = tyTup [tyI (i : Int), U] := by
  unfold enT at ht
  rw [List.getElem?_map, List.getElem?_zipIdx] at ht
  cases z : Ts[i]? with
  | none => rw [z] at ht; cases ht
  | some U => rw [z] at ht; simp at ht; exact ⟨U, rfl, ht.symm⟩
theorem yEnum {C0 C H H' : Hp} {vs : List V} {i : Nat} {v : V} (al : Als Ts vs C0) (ht : (enT Ts)[i]? = some T) (s : Same C0 C) (E : EntE B C W H) (y : YPair (fun i => some (.int (i : Nat))) (fun i => vs[i]?) i H v H') : ∃ C', Same C C' ∧ EntE B C' W H' ∧ T.r v C' := by
  obtain ⟨q, x, y, rfl, hq, rfl, e1, e2⟩ := y
  obtain ⟨U, hU, rfl⟩ := enT_at ht
  obtain ⟨v', e', r⟩ := als_at al hU
  cases e1
  have e2 : vs[i]? = some y := e2
  rw [e2] at e'; cases e'
  obtain ⟨s', E'⟩ := E.alloc (o := .tup [.int i, y]) hq
  exact ⟨_, s', E', q, _, rfl, upd_same, _, rfl, .cons rfl (.cons (U.mono (s.trans s') r) .nil)⟩
theorem Iv.enum {elts : List Expr} {kk : Nat} {tpos : Pos} (hm : X.mg "enumerate" = none) (h : Ev X B Γ W e (tyLst Ts)) (hg : Gl X "enumerate" := by rfl) (hs : starEach [e] X.env = [(false, eval e X.env)] := by rfl) :
    Iv X B Γ W (.Tuple elts kk tpos) (.Call (.Name "enumerate" p) [e] [] pos) (enT Ts) := ⟨_, pi_enum hg hm (pa_cons pe_s pa_nil hs) hs, fun σ C H S R k => h σ C H S _ fun v C1 H1 s1 E1 r => by
  obtain ⟨p, vs, rfl, hc, hp, al⟩ := getL E1 r
  exact ⟨p, vs, rfl, SqL.of hp, k _ C1 H1 s1 E1 (wk_of walk_enum (by unfold enT; rw [List.length_map, List.length_zipIdx]; exact Paired.length al) (fun C H W s E => SqL.of (list_in hc s E)) fun i C H W v H' T ht s E y => yEnum al ht s E y)⟩⟩
theorem Iv.enumT {elts : List Expr} {kk : Nat} {tpos : Pos} (hm : X.mg "enumerate" = none) (h : Ev X B Γ W e (tyTup Ts)) (hg : Gl X "enumerate" := by rfl) (hs : starEach [e] X.env = [(false, eval e X.env)] := by rfl) :
    Iv X B Γ W (.Tuple elts kk tpos) (.Call (.Name "enumerate" p) [e] [] pos) (enT Ts) := ⟨_, MR.pi_enumT hg hm (pa_cons pe_s pa_nil hs) hs, fun σ C H S R k => h σ C H S _ fun v C1 H1 s1 E1 r => by
  obtain ⟨p, vs, rfl, hc, hp, al⟩ := getT E1 r
  exact ⟨p, vs, rfl, SqT.of hp, k _ C1 H1 s1 E1 (wk_of MR.walk_enumT (by unfold enT; rw [List.length_map, List.length_zipIdx]; exact Paired.length al) (fun C H W s E => SqT.of (tup_in hc s E)) fun i C H W v H' T ht s E y => yEnum al ht s E y)⟩⟩
def ziT (Ts Us : List Ty) : List Ty := (Ts.zip Us).map fun q => tyTup [q.1, q.2]
theorem Iv.zip {e2 : Expr} {elts : List Expr} {kk : Nat} {tpos : Pos} (hm : X.mg "zip" = none) (h : Ev X B Γ W e (tyLst Ts)) (h2 : Ev X B Γ W e2 (tyLst Us)) (hg : Gl X "zip" := by rfl) (hs : starEach [e, e2] X.env = (false, eval e X.env) :: starEach [e2] X.env := by rfl) (hs2 : starEach [e2] X.env = (false, eval e2 X.env) :: starEach [] X.env := by rfl) (hpl : (backTo pos (starEach [e2] X.env)).any (·.1) = false := by rfl) :
    Iv X B Γ W (.Tuple elts kk tpos) (.Call (.Name "zip" p) [e, e2] [] pos) (ziT Ts Us) := ⟨_, pi_zip hg hm (pa_cons pe_s (pa_cons pe_s pa_nil hs2) hs) hs hpl, fun σ C H S R k => h σ C H S _ fun v C1 H1 s1 E1 r => h2 σ C1 H1 (S.go s1 E1) _ fun v2 C2 H2 s2 E2 r2 => by
  obtain ⟨p, vs, rfl, hc, hp, al⟩ := getL E2 ((tyLst Ts).mono s2 r)
  obtain ⟨q, ws, rfl, hd, hq, am⟩ := getL E2 r2
  refine ⟨p, q, vs, ws, rfl, SqL.of hp, SqL.of hq, k _ C2 H2 (s1.trans s2) E2 (wk_of (walk_zip rfl) (by unfold ziT; rw [List.length_map, List.length_zip, Paired.length al, Paired.length am]) (fun C H W s E => ⟨SqL.of (list_in hc s E), SqL.of (list_in hd s E)⟩) fun i C H W v H' T ht s E y => ?_)⟩
  obtain ⟨t, x, y, rfl, ht', rfl, e1, e2⟩ := y
  unfold ziT at ht
  rw [List.getElem?_map] at ht
  obtain ⟨q', hq', rfl⟩ := Option.map_eq_some_iff.mp ht
  rw [List.getElem?_zip_eq_some] at hq'
  obtain ⟨v1, f1, r1⟩ := als_at al hq'.1
  obtain ⟨v2, f2, r2⟩ := als_at am hq'.2
  have e1 : vs[i]? = some x := e1
  have e2 : ws[i]? = some y := e2
  rw [e1] at f1; cases f1
  rw [e2] at f2; cases f2
  obtain ⟨s', E'⟩ := E.alloc (o := .tup [x, y]) ht'
  exact ⟨_, s', E', t, _, rfl, upd_same, _, rfl, .cons (q'.1.mono (s.trans s') r1) (.cons (q'.2.mono (s.trans s') r2) .nil)⟩⟩
/-- the values of a locked dict, its keys -/
theorem Iv.vals {d : Addr} {ob : Obj} {ks : List (Key × V)} (h : Ev X B Γ W e (tyP d)) (hg : B.g d = some (.frz ob (.dK ks))) (hk : Kvs fs ks B.c) {cpos : Pos} (hbase : attributeBase e "values" X.env (eval e X.env) = eval e X.env := by rfl) (hline : (apos.endLine == cpos.line) = true := by rfl) :
    Iv X B Γ W tg (.Call (.Attribute e "values" apos) [] [] cpos) (fs.map (·.2)) := ⟨_, pi_values pe_s hbase hline, fun σ C H S R k => h σ C H S _ fun v C1 H1 s1 E1 r => by
  have fr : ∀ C H W, EntE B C W H → H d = some (.frz ob (.dK ks)) := fun C H W ⟨G, E⟩ => E.gh _ _ (E.g0 _ _ hg)
  refine ⟨d, ob, ks, r, fr _ _ _ E1, k _ C1 H1 s1 E1 (wk_of walk_values (by rw [List.length_map]; exact kvs_len hk) (fun C H W s E => fr C H W E) fun i C H W v H' T ht s E y => ?_)⟩
  obtain ⟨rfl, key, e⟩ := y
  obtain ⟨v', e', r'⟩ := als_at (kvs_vals hk) ht
  rw [List.getElem?_map, e] at e'
  cases e'
  exact ⟨C, Same.refl _, E, T.mono E.cc r'⟩⟩
theorem Iv.keys {d : Addr} {ob : Obj} {ks : List (Key × V)} (h : Ev X B Γ W e (tyP d)) (hg : B.g d = some (.frz ob (.dK ks))) (hk : Kvs fs ks B.c) :
    Iv X B Γ W tg e (fs.map fun q => tyS q.1) := ⟨_, pi_keys pe_s, fun σ C H S R k => h σ C H S _ fun v C1 H1 s1 E1 r => by
  have fr : ∀ C H W, EntE B C W H → H d = some (.frz ob (.dK ks)) := fun C H W ⟨G, E⟩ => E.gh _ _ (E.g0 _ _ hg)
  refine ⟨d, ob, r, .inl ⟨ks, fr _ _ _ E1, k _ C1 H1 s1 E1 (wk_of walk_keys (by rw [List.length_map]; exact kvs_len hk) (fun C H W s E => fr C H W E) fun i C H W v H' T ht s E y => ?_)⟩⟩
  obtain ⟨rfl, key, w, e, rfl⟩ := y
  have e3 := congrArg (fun l => l[i]?) (kvs_keys hk)
  simp only [List.getElem?_map, e, Option.map_some] at e3
  rw [List.getElem?_map] at ht
  cases z : fs[i]? with
  | none => rw [z] at ht; cases ht
  | some q =>
    rw [z] at ht e3
    cases ht
    have e3 : key = Sum.inr q.1 := by simpa using e3
    subst e3
    exact ⟨C, Same.refl _, E, rfl⟩⟩
end
end MJ
set_option maxHeartbeats 4000000
/-! Typed rules: comprehensions, calls, statements. -/
namespace MJ
open PySem PySem.Spec L2
open PyProof.Rows hiding St
section
variable {B : Bs} {C C1 C' H H1 H' : Hp} {W W' : Wl} {p : Addr} {o : HO} {K : Con}
theorem EntE.rebase (E : EntE B C W H) : EntE ⟨C, B.g⟩ C W H := by
  obtain ⟨G, E⟩ := E
  exact ⟨G, E.gh, E.ch, Same.refl _, fun a o o' e _ => e, E.g0, E.nd, E.ow⟩
open Classical in
theorem EntE.back (E : EntE B C1 W H1) (E' : EntE ⟨C1, B.g⟩ C' W' H') : EntE B C' W' H' := by
  obtain ⟨G, E⟩ := E
  obtain ⟨G', E'⟩ := E'
  refine ⟨fun a => if (∃ o, B.g a = some o) ∨ ∃ q ∈ W', q.1 = a then G' a else none, fun a u e => ?_, E'.ch, E.cc.trans E'.cc, fun a u u' e e' => ?_, fun a u e => ?_, E'.nd, fun q hq => ?_⟩
  · split at e
    · exact E'.gh a u e
    · cases e
  · split at e'
    · rename_i hc
      rcases hc with ⟨w, hw⟩ | ⟨q, hq, rfl⟩
      · exact E.dj a u w (E'.dj a u u' e e') (E.g0 a w hw)
      · have := (E'.ow q hq).2.1
        rw [this] at e; cases e
    · cases e'
  · rw [if_pos (.inl ⟨u, e⟩)]; exact E'.g0 a u e
  · obtain ⟨a1, a2, u, a3, a4, a5⟩ := E'.ow q hq
    exact ⟨a1, a2, u, by rw [if_pos (.inr ⟨q, hq, rfl⟩)]; exact a3, a4, a5⟩
theorem app_last (W : Wl) (q : Addr × Con) : (W ++ [q])[W.length]? = some q := by simp
theorem app_set (W : Wl) (q q' : Addr × Con) : (W ++ [q]).set W.length q' = W ++ [q'] := by simp
theorem app_erase (W : Wl) (q : Addr × Con) : (W ++ [q]).eraseIdx W.length = W := by
  rw [List.eraseIdx_append_of_length_le (Nat.le_refl _)]; simp
theorem set_self {W : Wl} {j : Nat} {q : Addr × Con} (h : W[j]? = some q) : W.set j q = W := by
  refine List.ext_getElem? fun i => ?_
  rw [List.getElem?_set]
  split
  · rename_i e
    subst e
    rw [if_pos (List.getElem?_eq_some_iff.mp h).1, h]
  · rfl
end
/-! ### comprehensions -/
abbrev Bk (X : Cx) (scope : Scope) (s0 : Shared) (H0 : Hp) (Cc : Addr) (cl : List (Str × Addr)) (fp : List Addr) : Cx := X.blk s0 H0 scope (compEnvC scope cl Cc X.env) fp
def teA (X : Cx) (scope : Scope) (e : Expr) : TE := fun σ H Q => ∀ s0 H0 Cc cl fp, sE (Bk X scope s0 H0 Cc cl fp) e σ H Q
def sQ (X : Cx) (ifs : List Expr) : TT := fun σ H Q => ∀ (pins : List (Addr × Obj)) (s : Shared), Inv X pins σ H s →
    wpAny (model X.prog X.w) X.A (forIn ifs true fun c r => if r = true then do let ok ← isTrue c X.env (eval c X.env); pure (ForInStep.yield ok) else pure (ForInStep.yield r)) (TP X pins σ Q) X.xe s
def ttA (X : Cx) (scope : Scope) (ifs : List Expr) : TT := fun σ H Q => ∀ s0 H0 Cc cl fp, sQ (Bk X scope s0 H0 Cc cl fp) ifs σ H Q
def sG (X : Cx) (tg : Expr) : TG := fun v σ H Q => ∀ (pins : List (Addr × Obj)) (s : Shared) (u : Value), Inv X pins σ H s → RelV v u → wpAny (model X.prog X.w) X.A (assign tg X.env u) (fun _ s' => ∃ σ' H', Inv X pins σ' H' s' ∧ Q σ' H') X.xe s
def tgA (X : Cx) (scope : Scope) (tg : Expr) : TG := fun v σ H Q => ∀ s0 H0 Cc cl fp, sG (Bk X scope s0 H0 Cc cl fp) tg v σ H Q
def Qv (X : Cx) (B : Bs) (Γ : Gm) (W : Wl) (ifs : List Expr) (P : Bool → Prop) : Prop := ∀ (σ : L2.St) (C H : Hp), Stt B Γ W σ C H → ∀ Q : Bool → Hp → Prop, Kp B W C P Q → sQ X ifs σ H Q
inductive Flt {α : Type} (P : α → Bool → Prop) : List α → List α → Prop where
  | nil : Flt P [] []
  | keep {x : α} {l m : List α} : Flt P l m → P x true → Flt P (l ++ [x]) (m ++ [x])
  | drop {x : α} {l m : List α} : Flt P l m → P x false → Flt P (l ++ [x]) m
theorem Flt.len {α : Type} {P : α → Bool → Prop} {l m : List α} (h : Flt P l m) : m.length ≤ l.length := by
  induction h with
  | nil => exact Nat.le_refl _
  | keep _ _ ih => simp; exact ih
  | drop _ _ ih => simp; omega
theorem Flt.eq {α : Type} {pr : α → Bool} {l m : List α} (h : Flt (fun x b => b = pr x) l m) : m = l.filter pr := by
  induction h with
  | nil => rfl
  | keep _ e ih => rw [List.filter_append, ← ih]; simp [← e]
  | drop _ e ih => rw [List.filter_append, ← ih]; simp [← e]
theorem Flt.sub {α : Type} {P : α → Bool → Prop} {l m : List α} (h : Flt P l m) : m.Sublist l := by
  induction h with
  | nil => exact .slnil
  | keep _ _ ih => exact ih.append (List.Sublist.refl _)
  | drop _ _ ih => exact ih.trans (List.sublist_append_left _ _)
section
variable {X : Cx} {B : Bs} {Γ : Gm} {W : Wl} {a b c e o tg iter elt : Expr} {es tgs ifs : List Expr} {pos pos' apos p : Pos} {R Ra Rb T : Ty} {Ts Us : List Ty} {K : Con} {x f : Str} {fs : List (Str × Ty)} {Cl : Addr} {i j : Int} {scope : Scope}
theorem Qv.nil : Qv X B Γ W [] (· = true) := fun σ C H S Q k pins s I => pts_nil.run pins s σ H Q I (k true C H (Same.refl _) S.en rfl)
theorem Qv.one {P : Bool → Prop} (h : Tv X B Γ W c P) : Qv X B Γ W [c] P := fun σ C H S Q k pins s I => (pts_one pt_s).run pins s σ H Q I (h σ C H S Q k)
/-- the reading of a list comprehension, by types -/
theorem lcT {α : Type} {xs : List α} {Rx : α → Ty} {P : α → Bool → Prop} {Ro : α → Ty} {is vs : List Nat} {Tx : α → List Ty} {wi : TI}
    (hi : ∀ (σ : L2.St) (C H : Hp), Stt B Γ W σ C H → ∀ R : It → Hp → Prop, (∀ J C' H', Same C C' → EntE B C' W H' → Wk B J C' (xs.map Rx) → R J H') → wi σ H R)
    (hg : ∀ x s0 H0 Cc cl fp, Gv (Bk X scope s0 H0 Cc cl fp) tg (Rx x) is (Tx x)) (hv : ∀ i ∈ is, i ∈ vs) (hl : xs.length < sizeLine)
    (hc : ∀ x ∈ xs, ∀ s0 H0 Cc cl fp D K, Qv (Bk X scope s0 H0 Cc cl fp) B (setG (wipeG Γ vs) is (Tx x)) (W ++ [(D, K)]) ifs (P x))
    (he : ∀ x ∈ xs, P x true → ∀ s0 H0 Cc cl fp D K, Ev (Bk X scope s0 H0 Cc cl fp) B (setG (wipeG Γ vs) is (Tx x)) (W ++ [(D, K)]) elt (Ro x))
    {σ : L2.St} {C H : Hp} (S : Stt B Γ W σ C H) {Q : VK} (k : Kn B W C (tyEx (fun l => Flt P xs l) fun l => tyLst (l.map Ro)) Q) : tLc wi (tgA X scope tg) (ttA X scope ifs) (teA X scope elt) vs σ H Q := by
  refine hi σ C H S _ fun J C1 H1 s1 E1 wk D hD => ?_
  have w : Walk J xs.length (fun H => ∃ C W', Same C1 C ∧ EntE B C W' H) (fun i H v H' => J.yld i H v H') :=
    ⟨fun i H hi ⟨C, W', s, E⟩ => wk.goes i C H W' (by rw [List.length_map]; exact hi) s E, fun H ⟨C, W', s, E⟩ => by have := wk.stops C H W' s E; rwa [List.length_map] at this, fun _ _ _ _ _ _ y => y⟩
  refine lc_it w (fun n H => ∃ C l, Same C1 C ∧ Flt P (xs.take n) l ∧ EntE B C (W ++ [(D, cLst (l.map Ro))]) H) ⟨C1, [], Same.refl _, by rw [List.take_zero]; exact .nil, E1.own hD trivial ⟨[], rfl, .nil⟩⟩ (fun n H _ ⟨C, l, s, _, E⟩ => ⟨C, _, s, E⟩) (fun n v H2 H3 hn ⟨C2, l, s2, fl, E2⟩ y => ?_) (fun H2 ⟨C2, l, s2, fl, E2⟩ => ?_)
  · have hx : xs[n]? = some xs[n] := by rw [List.getElem?_eq_getElem hn]
    generalize hxe : xs[n] = x at hx
    have hm : x ∈ xs := List.mem_of_getElem? hx
    obtain ⟨C3, s3, E3, rv⟩ := wk.yields n C2 H2 _ v H3 (Rx x) (by rw [List.getElem?_map, hx]; rfl) s2 E2 y
    have ht : xs.take (n + 1) = xs.take n ++ [x] := by rw [List.take_succ, hx]; rfl
    intro s0 H0 Cc cl fp
    obtain ⟨g, pg, qg⟩ := hg x s0 H0 Cc cl fp
    intro pins s u I ru
    refine pg.run pins s _ H3 v u _ I ru (qg B _ _ C3 H3 v _ E3 rv fun ws al => ?_)
    refine ⟨by rw [wipe_setS hv, wipe_wipe fun _ h => h], fun s0 H0 Cc cl fp => ?_⟩
    have S3 : Stt B (setG (wipeG Γ vs) is (Tx x)) (W ++ [(D, cLst (l.map Ro))]) (setS (wipe σ vs) is ws) C3 H3 := ⟨sl_set al (sl_wipe (S.sl.mono (s1.trans (s2.trans s3))) vs), E3⟩
    refine hc x hm s0 H0 Cc cl fp D _ _ C3 H3 S3 _ fun bb C4 H4 s4 E4 pb => ?_
    cases bb with
    | true =>
      refine iteT fun s0 H0 Cc cl fp => he x hm pb s0 H0 Cc cl fp D _ _ C4 H4 (S3.go s4 E4) _ fun z C5 H5 s5 E5 rz => ?_
      obtain ⟨o, ho, _, vs', eo, al'⟩ := E5.look (app_last W _)
      subst eo
      refine ⟨vs', ho, ?_, C5, l ++ [x], s2.trans (s3.trans (s4.trans s5)), by rw [ht]; exact .keep fl pb, ?_⟩
      · rw [← Paired.length al', List.length_map]
        have := fl.len
        rw [List.length_take] at this
        omega
      · have := E5.put (K' := cLst ((l ++ [x]).map Ro)) (o' := .lst (vs' ++ [z])) (app_last W _) trivial ⟨_, rfl, by rw [List.map_append]; exact Paired.app al' (.cons rz .nil)⟩
        rwa [app_set] at this
    | false => exact iteF ⟨C4, l, s2.trans (s3.trans s4), by rw [ht]; exact .drop fl pb, E4⟩
  · rw [List.take_length] at fl
    obtain ⟨o, hn, r, sC, E3⟩ := E2.freeze (app_last W _)
    rw [app_erase] at E3
    exact k (.ref D) _ H2 (s1.trans (s2.trans sC)) E3 ⟨l, fl, D, o, rfl, upd_same, (cLst (l.map Ro)).mono sC r⟩
/-- as a value -/
theorem Ev.lcEx {α : Type} {xs : List α} {Rx : α → Ty} {P : α → Bool → Prop} {Ro : α → Ty} {is : List Nat} {Tx : α → List Ty} (own : List (Str × Nat)) (hcalm : X.calm = true) (nd : X.N.Nodup)
    (hi : Iv X B Γ W tg iter (xs.map Rx)) (ok : BlkOk X.N X.env.scope scope own)
    (hg : ∀ x s0 H0 Cc cl fp, Gv (Bk X scope s0 H0 Cc cl fp) tg (Rx x) is (Tx x)) (hv : ∀ i ∈ is, i ∈ own.map (·.2)) (hl : xs.length < sizeLine)
    (hc : ∀ x ∈ xs, ∀ s0 H0 Cc cl fp D K, Qv (Bk X scope s0 H0 Cc cl fp) B (setG (wipeG Γ (own.map (·.2))) is (Tx x)) (W ++ [(D, K)]) ifs (P x))
    (he : ∀ x ∈ xs, P x true → ∀ s0 H0 Cc cl fp D K, Ev (Bk X scope s0 H0 Cc cl fp) B (setG (wipeG Γ (own.map (·.2))) is (Tx x)) (W ++ [(D, K)]) elt (Ro x)) (hs : ∀ x, foldedSetIterable iter X.env x = pure x := by intro _; rfl) :
    Ev X B Γ W (.ListComp elt [⟨tg, iter, ifs, 0⟩] scope pos) (tyEx (fun l => Flt P xs l) fun l => tyLst (l.map Ro)) := fun σ C H S Q k => by
  obtain ⟨wi, pi, qi⟩ := hi
  refine toE (pe_lc (own := own) (g := tgA X scope tg) (tt := ttA X scope ifs) (te := teA X scope elt) hcalm nd pi ok (fun s0 H0 Cc cl fp => ⟨fun pins s σ H v u Q I r h => h s0 H0 Cc cl fp pins s u I r⟩) (fun s0 H0 Cc cl fp => ⟨fun pins s σ H Q I h => h s0 H0 Cc cl fp pins s I⟩) (fun s0 H0 Cc cl fp => ⟨fun pins s σ H Q I h => h s0 H0 Cc cl fp pins s I⟩) hs) ?_
  exact lcT qi hg hv hl hc he S k
theorem Ev.lcF {α : Type} {xs : List α} {Rx : α → Ty} {pr : α → Bool} {Ro : α → Ty} {is : List Nat} {Tx : α → List Ty} (own : List (Str × Nat)) (hcalm : X.calm = true) (nd : X.N.Nodup)
    (hi : Iv X B Γ W tg iter (xs.map Rx)) (ok : BlkOk X.N X.env.scope scope own)
    (hg : ∀ x s0 H0 Cc cl fp, Gv (Bk X scope s0 H0 Cc cl fp) tg (Rx x) is (Tx x)) (hv : ∀ i ∈ is, i ∈ own.map (·.2)) (hl : xs.length < sizeLine)
    (hc : ∀ x ∈ xs, ∀ s0 H0 Cc cl fp D K, Qv (Bk X scope s0 H0 Cc cl fp) B (setG (wipeG Γ (own.map (·.2))) is (Tx x)) (W ++ [(D, K)]) ifs (· = pr x))
    (he : ∀ x ∈ xs, pr x = true → ∀ s0 H0 Cc cl fp D K, Ev (Bk X scope s0 H0 Cc cl fp) B (setG (wipeG Γ (own.map (·.2))) is (Tx x)) (W ++ [(D, K)]) elt (Ro x)) (hs : ∀ x, foldedSetIterable iter X.env x = pure x := by intro _; rfl) :
    Ev X B Γ W (.ListComp elt [⟨tg, iter, ifs, 0⟩] scope pos) (tyLst ((xs.filter pr).map Ro)) :=
  Ev.conv (Ev.lcEx (P := fun x b => b = pr x) own hcalm nd hi ok hg hv hl hc (fun x hx e => he x hx e.symm) hs) fun v C ⟨l, fl, r⟩ => by rw [← fl.eq]; exact r
theorem Ev.lc {α : Type} {xs : List α} {Rx : α → Ty} {Ro : α → Ty} {is : List Nat} {Tx : α → List Ty} (own : List (Str × Nat)) (hcalm : X.calm = true) (nd : X.N.Nodup)
    (hi : Iv X B Γ W tg iter (xs.map Rx)) (ok : BlkOk X.N X.env.scope scope own)
    (hg : ∀ x s0 H0 Cc cl fp, Gv (Bk X scope s0 H0 Cc cl fp) tg (Rx x) is (Tx x)) (hv : ∀ i ∈ is, i ∈ own.map (·.2)) (hl : xs.length < sizeLine)
    (he : ∀ x ∈ xs, ∀ s0 H0 Cc cl fp D K, Ev (Bk X scope s0 H0 Cc cl fp) B (setG (wipeG Γ (own.map (·.2))) is (Tx x)) (W ++ [(D, K)]) elt (Ro x)) (hs : ∀ x, foldedSetIterable iter X.env x = pure x := by intro _; rfl) :
    Ev X B Γ W (.ListComp elt [⟨tg, iter, [], 0⟩] scope pos) (tyLst (xs.map Ro)) :=
  Ev.conv (Ev.lcF (pr := fun _ => true) own hcalm nd hi ok hg hv hl (fun _ _ _ _ _ _ _ _ _ => Qv.nil) (fun x hx _ => he x hx) hs) fun v C r => by
    have e : xs.filter (fun _ => true) = xs := List.filter_eq_self.mpr fun _ _ => rfl
    rw [e] at r; exact r
end
end MJ
set_option maxHeartbeats 4000000
/-! Typed rules: calls, statements. -/
namespace MJ
open PySem PySem.Spec L2
open PyProof.Rows hiding St
/-! ### promises -/
section
variable {ι : Type}
/-- a def that changes nothing that was there -/
def spP (pre : ι → Prop) (ar : ι → List Ty) (R : ι → Ty) : Sp := fun vs H Q _ => ∃ (i : ι) (C g : Hp), pre i ∧ EntE ⟨C, g⟩ C [] H ∧ Als (ar i) vs C ∧ ∀ v C' H', EntE ⟨C, g⟩ C' [] H' → (R i).r v C' → Q v H'
/-- a def whose first argument is an owned object, which it leaves as told -/
def spW (pre : ι → Prop) (K : ι → Con) (ar : ι → List Ty) (K' : ι → Con) (R : ι → Ty) : Sp := fun vs H Q _ => ∃ (i : ι) (C g : Hp) (p : Addr) (ws : List V), pre i ∧ EntE ⟨C, g⟩ C [(p, K i)] H ∧ vs = .ref p :: ws ∧ Als (ar i) ws C ∧
  ∀ v C' H', EntE ⟨C, g⟩ C' [(p, K' i)] H' → (R i).r v C' → Q v H'
/-- an __init__ -/
abbrev spI (Cl : Addr) (pre : ι → Prop) (ar : ι → List Ty) (fs : ι → List (Str × Ty)) : Sp := spW pre (fun _ => cIns Cl []) ar (fun i => cIns Cl (fs i)) (fun _ => tyN)
end
def Fin (B : Bs) (W : Wl) (R : Ty) (D : Ends) : Prop := ∀ v C H, EntE B C W H → R.r v C → D.rt v H
abbrev At (B : Bs) (Γ : Gm) (W : Wl) : L2.St → Hp → Prop := fun σ H => ∃ C, Stt B Γ W σ C H
abbrev Dn (D : Ends) (N : L2.St → Hp → Prop) : Ends := { D with nx := N }
abbrev Dl (D : Ends) (N Bk : L2.St → Hp → Prop) : Ends := { D with nx := N, ct := N, bk := Bk }
section
variable {X : Cx} {B : Bs} {Γ Γ' : Gm} {W W' : Wl} {a b c e o tg iter value : Expr} {es tgs ifs : List Expr} {pos pos' apos p spos : Pos} {R Ra Rb T : Ty} {Ts Us : List Ty} {K : Con} {x f m : Str} {fs : List (Str × Ty)} {C Cl : Addr} {i j : Int} {k n : Nat}
  {ι : Type} {pre : ι → Prop} {ar : ι → List Ty} {Rr : ι → Ty} {Kk Kk' : ι → Con} {fi : ι → List (Str × Ty)}
theorem Ev.call (c : C8.Cal X.prog X.w X.K X.mg X.base k x (spP pre ar Rr) []) (hr : Room n X.A) (hk : k ≤ n) (i : ι) (hp : pre i) (ha : As X B Γ W (e :: es) (ar i)) (hg : Gl X x := by rfl)
    (hdb : (x == ("__debug__" : Str)) = false := by decide) (he : starEach (e :: es) X.env = (false, eval e X.env) :: starEach es X.env := by rfl) (hpl : (backTo pos (starEach es X.env)).any (·.1) = false := by rfl) :
    Ev X B Γ W (.Call (.Name x p) (e :: es) [] pos) (Rr i) := fun σ C H S Q q =>
  toE (C8.pe_c c hr hk hg pa_s hdb he hpl) (show tCall _ _ _ (sA X (e :: es)) σ H Q from fun pos pins s I => ha σ C H S _ (fun vs C1 H1 s1 E1 al => by
    obtain ⟨g, E2, up⟩ := E1.down
    exact ⟨i, C1, g, hp, E2, by rw [List.append_nil]; exact al, fun v C' H' E' r => let ⟨s', E3⟩ := up C' H' E'; q v C' H' (s1.trans s') E3 r⟩) pos pins s I)
/-- .. whose first argument is owned -/
theorem Ev.callW {pw : Addr} (jw : Nat) (c : C8.Cal X.prog X.w X.K X.mg X.base k x (spW pre Kk ar Kk Rr) []) (hr : Room n X.A) (hk : k ≤ n) (i : ι) (hj : W[jw]? = some (pw, Kk i)) (hp : pre i) (ha : As X B Γ W (e :: es) (tyP pw :: ar i)) (hg : Gl X x := by rfl)
    (hdb : (x == ("__debug__" : Str)) = false := by decide) (he : starEach (e :: es) X.env = (false, eval e X.env) :: starEach es X.env := by rfl) (hpl : (backTo pos (starEach es X.env)).any (·.1) = false := by rfl) :
    Ev X B Γ W (.Call (.Name x p) (e :: es) [] pos) (Rr i) := fun σ C H S Q q =>
  toE (C8.pe_c c hr hk hg pa_s hdb he hpl) (show tCall _ _ _ (sA X (e :: es)) σ H Q from fun pos pins s I => ha σ C H S _ (fun vs C1 H1 s1 E1 al => by
    obtain ⟨g, gn, E2, up⟩ := E1.down1 hj
    cases al with
    | cons r0 al =>
      cases r0
      exact ⟨i, C1, g, pw, _, hp, E2, by rw [List.append_nil], al, fun v C' H' E' r => let ⟨s', E3⟩ := up C' H' _ E'; q v C' H' (s1.trans s') (by rwa [set_self hj] at E3) r⟩) pos pins s I)
/-- a method of a core object -/
theorem Ev.meth {pl : Sem Bool} (c : C8.Met X.prog X.w X.K X.mg X.base k Cl m (spP pre ar Rr) []) (hr : Room n X.A) (hk : k ≤ n) (i : ι) (hp : pre i) (ho : Ev X B Γ W o (tyO Cl fs)) (ha : As X B Γ W (e :: es) Ts) (hi : ar i = tyO Cl fs :: Ts := by rfl) (hm : fs.lookup m = none := by rfl)
    (hst : starEach (e :: es) X.env = (false, eval e X.env) :: starEach es X.env := by rfl) (hpl : (backTo pos (starEach es X.env)).any (·.1) = false := by rfl)
    (ht : eval (.Call (.Attribute o m apos) (e :: es) [] pos) X.env = (do
      let ov ← eval o X.env
      standAt apos.atName
      let (f, first) ← holding [ov] (getMethod ov m pl)
      callWith pos f first (backTo pos (starEach (e :: es) X.env)) (backToKw pos (keywordEach [] X.env))) := by rfl) :
    Ev X B Γ W (.Call (.Attribute o m apos) (e :: es) [] pos) (Rr i) := fun σ C H S Q q =>
  toE (C8.pe_mt c hr hk pe_s pa_s hst hpl ht) (ho σ C H S _ fun v C1 H1 s1 E1 r1 => by
    obtain ⟨p, dx, vs, rfl, hc, hp', al⟩ := getO E1 r1
    refine ⟨p, dx, vs, rfl, hp', fls_none al hm, fun pos pins s I => ha σ C1 H1 (S.go s1 E1) _ (fun ws C2 H2 s2 E2 al2 => ?_) pos pins s I⟩
    obtain ⟨g, E3, up⟩ := E2.down
    exact ⟨i, C2, g, hp, E3, by rw [List.append_nil, hi]; exact .cons ((tyO Cl fs).mono s2 r1) al2, fun v C' H' E' r => let ⟨s', E4⟩ := up C' H' E'; q v C' H' (s1.trans (s2.trans s')) E4 r⟩)
theorem Ev.meth0 {pl : Sem Bool} (c : C8.Met X.prog X.w X.K X.mg X.base k Cl m (spP pre ar Rr) []) (hr : Room n X.A) (hk : k ≤ n) (i : ι) (hp : pre i) (ho : Ev X B Γ W o (tyO Cl fs)) (hi : ar i = [tyO Cl fs] := by rfl) (hm : fs.lookup m = none := by rfl)
    (ht : eval (.Call (.Attribute o m apos) [] [] pos) X.env = (do
      let ov ← eval o X.env
      standAt apos.atName
      let (f, first) ← holding [ov] (getMethod ov m pl)
      callWith pos f first (backTo pos (starEach [] X.env)) (backToKw pos (keywordEach [] X.env))) := by rfl) :
    Ev X B Γ W (.Call (.Attribute o m apos) [] [] pos) (Rr i) := fun σ C H S Q q =>
  toE (C8.pe_mt0 c hr hk pe_s ht) (ho σ C H S _ fun v C1 H1 s1 E1 r1 => by
    obtain ⟨p, dx, vs, rfl, hc, hp', al⟩ := getO E1 r1
    obtain ⟨g, E3, up⟩ := E1.down
    exact ⟨p, dx, vs, rfl, hp', fls_none al hm, i, C1, g, hp, E3, by rw [hi]; exact .cons r1 .nil, fun v C' H' E' r => let ⟨s', E4⟩ := up C' H' E'; q v C' H' (s1.trans s') E4 r⟩)
/-- a new object -/
theorem Ev.mk (c : C8.Mak X.prog X.w X.K X.mg X.base k x Cl (spI Cl pre ar fi) []) (hr : Room n X.A) (hk : k + 1 ≤ n) (i : ι) (hp : pre i) (ha : As X B Γ W (e :: es) (ar i)) (hg : Gl X x := by rfl)
    (hdb : (x == ("__debug__" : Str)) = false := by decide) (he : starEach (e :: es) X.env = (false, eval e X.env) :: starEach es X.env := by rfl) (hpl : (backTo pos (starEach es X.env)).any (·.1) = false := by rfl) :
    Ev X B Γ W (.Call (.Name x p) (e :: es) [] pos) (tyO Cl (fi i)) := fun σ C H S Q q =>
  toE (C8.pe_mk c hr hk hg pa_s hdb he hpl) (show tMake _ _ _ _ (sA X (e :: es)) σ H Q from fun pos pins s I => ha σ C H S _ (fun vs C1 H1 s1 E1 al => by
    intro x dx hx hdx hne
    obtain ⟨s2, E2⟩ := E1.alloc (o := .own x) hdx
    have hx2 : (upd H1 dx (.own x)) x = none := by rw [upd_ne (Ne.symm hne)]; exact hx
    have E3 := E2.own (K := cIns Cl []) (o := .ins Cl dx []) hx2 trivial ⟨dx, [], rfl, .nil⟩
    obtain ⟨g, gn, E4, up⟩ := E3.down1 (app_last W _)
    refine ⟨i, _, g, x, _, hp, E4, by rw [List.append_nil], al.mono s2, fun v C' H' E' r => ⟨r, ?_⟩⟩
    obtain ⟨s5, E5⟩ := up C' H' _ E'
    rw [app_set] at E5
    obtain ⟨o, hn, ro, sC, E6⟩ := E5.freeze (app_last W _)
    rw [app_erase] at E6
    exact q (.ref x) _ H' (s1.trans (s2.trans (s5.trans sC))) E6 ⟨x, o, rfl, upd_same, (cIns Cl (fi i)).mono sC ro⟩) pos pins s I)
/-! ### blocks -/
theorem Sj.nil {D : Ends} (h : ∀ σ C H, Stt B Γ W σ C H → D.nx σ H) : Sj X B Γ W [] D := fun σ C H S => toB pss_nil (h σ C H S)
theorem Sj.conv {sts : List Stmt} {D : Ends} (f : ∀ σ C H, Stt B Γ W σ C H → ∃ C', Stt B Γ' W' σ C' H) (h : Sj X B Γ' W' sts D) : Sj X B Γ W sts D := fun σ C H S => let ⟨C', S'⟩ := f σ C H S; h σ C' H S'
variable {st : Stmt} {rest A E body : List Stmt} {D : Ends} {N : List Str}
theorem cons_ {t : TS} (h : PS X st t) {σ : L2.St} {H : Hp} (q : t (Dn D (sB X rest D)) σ H) : sB X (st :: rest) D σ H := toB (pss_cons h pb_s) q
/-- go on with what follows -/
theorem Sj.go {D' : Ends} (h : Sj X B Γ W rest D) (e : D'.nx = sB X rest D) : Sj X B Γ W [] D' := Sj.nil fun σ C H S => by rw [e]; exact h σ C H S
theorem Sj.set (i : Nat) (nd : X.N.Nodup) (he : Ev X B Γ W e R) (hr : Sj X B (Γ.set i (some R)) W rest D) (hi : X.N[i]? = some x := by rfl) (hx : Loc X.env.scope x := by first | exact Or.inl rfl | exact Or.inr rfl)
    (hs : swapsWith e (some (.Name x pos')) spos.line X.env = pure false := by rfl) (hf : X.fn x = true ∨ X.env.scope.names.lookup x = some .local := by first | exact .inl rfl | exact .inr rfl) : Sj X B Γ W (.Assign [.Name x pos'] e spos :: rest) D := fun σ C H S =>
  cons_ (ps_set nd hi hx pe_s hs hf) (he σ C H S _ fun v C1 H1 s1 E1 r => hr _ C1 H1 ⟨Sl.set i (S.sl.mono s1) r, E1⟩)
/-- .. of a value that is told by a property: any such -/
theorem Sj.setEx {α : Type} {P : α → Prop} {Rx : α → Ty} (i : Nat) (nd : X.N.Nodup) (he : Ev X B Γ W e (tyEx P Rx)) (hr : ∀ z, P z → Sj X B (Γ.set i (some (Rx z))) W rest D) (hi : X.N[i]? = some x := by rfl) (hx : Loc X.env.scope x := by first | exact Or.inl rfl | exact Or.inr rfl)
    (hs : swapsWith e (some (.Name x pos')) spos.line X.env = pure false := by rfl) (hf : X.fn x = true ∨ X.env.scope.names.lookup x = some .local := by first | exact .inl rfl | exact .inr rfl) : Sj X B Γ W (.Assign [.Name x pos'] e spos :: rest) D := fun σ C H S =>
  cons_ (ps_set nd hi hx pe_s hs hf) (he σ C H S _ fun v C1 H1 s1 E1 ⟨z, pz, r⟩ => hr z pz _ C1 H1 ⟨Sl.set i (S.sl.mono s1) r, E1⟩)
/-- an unpacking -/
theorem Sj.setT {is : List Nat} {k : Nat} {tes : List Expr} {pt : Pos} (he : Ev X B Γ W e T) (hg : Gv X (.Tuple tes k pt) T is Ts) (hr : Sj X B (setG Γ is Ts) W rest D) (hs : swapsWithSole [.Tuple tes k pt] e spos.line X.env = pure false := by rfl) (hw : swappedStores [.Tuple tes k pt] e X.env = pure none := by rfl)
    (h1 : (assignEach [.Tuple tes k pt] X.env).map (·.2) = [assign (.Tuple tes k pt) X.env] := by rfl) : Sj X B Γ W (.Assign [.Tuple tes k pt] e spos :: rest) D := fun σ C H S => by
  obtain ⟨g, pg, qg⟩ := hg
  exact cons_ (ps_asg pe_s pg hs hw h1) (he σ C H S _ fun v C1 H1 s1 E1 r => qg B W _ C1 H1 v _ E1 r fun vs al => hr _ C1 H1 ⟨sl_set al (S.sl.mono s1), E1⟩)
theorem Sj.par (i j : Nat) {y : Str} {Tx Ty' : Ty} {px py pt : Pos} {kt k2 : Nat} {pt2 : Pos} (hc : X.calm = true) (nd : X.N.Nodup) (ha : As X B Γ W [a, b] [Tx, Ty']) (hr : Sj X B ((Γ.set i (some Tx)).set j (some Ty')) W rest D) (hij : i ≠ j := by decide) (hi : X.N[i]? = some x := by rfl) (hj : X.N[j]? = some y := by rfl)
    (hx : X.env.scope.names.lookup x = some .local := by rfl) (hy : X.env.scope.names.lookup y = some .local := by rfl)
    (hw : swappedStores [.Tuple [.Name x px, .Name y py] kt pt] (.Tuple [a, b] k2 pt2) X.env = pure (some [x, y]) := by rfl)
    (hs : swapsWithSole [.Tuple [.Name x px, .Name y py] kt pt] (.Tuple [a, b] k2 pt2) spos.line X.env = pure false := by rfl) : Sj X B Γ W (.Assign [.Tuple [.Name x px, .Name y py] kt pt] (.Tuple [a, b] k2 pt2) spos :: rest) D := fun σ C H S =>
  cons_ (ps_par hc nd hi hj hij hx hy pa_s hw hs) (fun pos pins s I => ha σ C H S _ (fun vs C1 H1 s1 E1 al => by
    obtain ⟨v, w, rfl, r1, r2⟩ := als2 al
    exact ⟨v, w, rfl, hr _ C1 H1 ⟨Sl.set j (Sl.set i (S.sl.mono s1) r1) r2, E1⟩⟩) pos pins s I)
theorem Sj.augI (i : Nat) {u v : Int} (nd : X.N.Nodup) (hΓ : Γ[i]? = some (some (tyI u))) (he : Ev X B Γ W e (tyI v)) (hr : Sj X B (Γ.set i (some (tyI (u + v)))) W rest D) (hi : X.N[i]? = some x := by rfl) (hx : Loc X.env.scope x := by first | exact Or.inl rfl | exact Or.inr rfl)
    (hf : X.fn x = true ∨ X.env.scope.names.lookup x = some .local := by first | exact .inl rfl | exact .inr rfl) : Sj X B Γ W (.AugAssign (.Name x pos') .Add e spos :: rest) D := fun σ C H S => by
  obtain ⟨w, e1, r1⟩ := S.sl.2 i _ hΓ
  cases r1
  exact cons_ (ps_aug nd hi hx pe_s ip_add hf) ⟨_, e1, he σ C H S _ fun y C1 H1 s1 E1 r => ⟨u, v, rfl, r, hr _ C1 H1 ⟨Sl.set i (S.sl.mono s1) rfl, E1⟩⟩⟩
theorem Sj.ret {R' : Ty} {Wf : Wl} (he : Ev X B Γ W e R') (fin : Fin B Wf R D) (hc : ∀ v C, R'.r v C → R.r v C) (hw : Wc W Wf) : Sj X B Γ W (.Return (some e) spos :: rest) D := fun σ C H S =>
  cons_ (ps_ret pe_s) (he σ C H S _ fun v C1 H1 s1 E1 r => fin v C1 H1 (E1.wc hw) (hc v C1 r))
theorem Sj.expr (he : Ev X B Γ W e R) (hr : Sj X B Γ W rest D) (hs : swapsWith e none spos.line X.env = pure false := by rfl) : Sj X B Γ W (.Expr e spos :: rest) D := fun σ C H S =>
  cons_ (ps_expr pe_s hs) (he σ C H S _ fun v C1 H1 s1 E1 r => hr _ C1 H1 (S.go s1 E1))
theorem Sj.if_ {P : Bool → Prop} (hc : Tv X B Γ W c P) (h1 : P true → Sj X B Γ W A (Dn D (sB X rest D))) (h2 : P false → Sj X B Γ W E (Dn D (sB X rest D))) : Sj X B Γ W (.If c A E spos :: rest) D := fun σ C H S =>
  cons_ (ps_if pt_s pb_s pb_s) (hc σ C H S _ fun bb C1 H1 s1 E1 pb => by
    cases bb with
    | true => exact iteT (h1 pb σ C1 H1 (S.go s1 E1))
    | false => exact iteF (h2 pb σ C1 H1 (S.go s1 E1)))
/-- a test that never holds, nothing else -/
theorem Sj.never (hc : Tv X B Γ W c (· = false)) (hr : Sj X B Γ W rest D) : Sj X B Γ W (.If c A [] spos :: rest) D := fun σ C H S =>
  cons_ (ps_if pt_s pb_s pb_s) (hc σ C H S _ fun bb C1 H1 s1 E1 pb => by
    subst pb
    exact iteF (toB pss_nil (hr σ C1 H1 (S.go s1 E1))))
theorem Sj.brk (h : ∀ σ C H, Stt B Γ W σ C H → D.bk σ H) : Sj X B Γ W (.Break spos :: rest) D := fun σ C H S => cons_ ps_break (h σ C H S)
/-- name = [..], on one line -/
theorem Sj.setLcEx {α : Type} {xs : List α} {Rx : α → Ty} {Pb : α → Bool → Prop} {Ro : α → Ty} {is : List Nat} {Tx : α → List Ty} {elt : Expr} {scope : Scope} (i : Nat) (own : List (Str × Nat)) (hcalm : X.calm = true) (nd : X.N.Nodup)
    (hi : Iv X B Γ W tg iter (xs.map Rx)) (ok : BlkOk X.N X.env.scope scope own)
    (hg : ∀ x s0 H0 Cc cl fp, Gv (Bk X scope s0 H0 Cc cl fp) tg (Rx x) is (Tx x)) (hv : ∀ i ∈ is, i ∈ own.map (·.2)) (hl : xs.length < sizeLine)
    (hc : ∀ x ∈ xs, ∀ s0 H0 Cc cl fp D K, Qv (Bk X scope s0 H0 Cc cl fp) B (setG (wipeG Γ (own.map (·.2))) is (Tx x)) (W ++ [(D, K)]) ifs (Pb x))
    (he : ∀ x ∈ xs, Pb x true → ∀ s0 H0 Cc cl fp D K, Ev (Bk X scope s0 H0 Cc cl fp) B (setG (wipeG Γ (own.map (·.2))) is (Tx x)) (W ++ [(D, K)]) elt (Ro x))
    (hr : ∀ l, Flt Pb xs l → Sj X B (Γ.set i (some (tyLst (l.map Ro)))) W rest D) (hy : X.N[i]? = some x := by rfl) (hyl : X.env.scope.names.lookup x = some .local := by rfl)
    (hsw : swapsWith (.ListComp elt [⟨tg, iter, ifs, 0⟩] scope pos) (some (.Name x pos')) spos.line X.env = pure true := by exact sw_true rfl rfl rfl (by decide +kernel)) (hs : ∀ x, foldedSetIterable iter X.env x = pure x := by intro _; rfl) :
    Sj X B Γ W (.Assign [.Name x pos'] (.ListComp elt [⟨tg, iter, ifs, 0⟩] scope pos) spos :: rest) D := fun σ C H S => by
  obtain ⟨wi, pi, qi⟩ := hi
  refine cons_ (ps_setLc (i := i) (own := own) (g := tgA X scope tg) (tt := ttA X scope ifs) (te := teA X scope elt) hcalm nd hy hyl hsw pi ok (fun s0 H0 Cc cl fp => ⟨fun pins s σ H v u Q I r h => h s0 H0 Cc cl fp pins s u I r⟩) (fun s0 H0 Cc cl fp => ⟨fun pins s σ H Q I h => h s0 H0 Cc cl fp pins s I⟩) (fun s0 H0 Cc cl fp => ⟨fun pins s σ H Q I h => h s0 H0 Cc cl fp pins s I⟩) hs) ?_
  exact lcT qi hg hv hl hc he S fun v C1 H1 s1 E1 ⟨l, fl, r⟩ => hr l fl _ C1 H1 ⟨Sl.set i (S.sl.mono s1) r, E1⟩
theorem Sj.setLcF {α : Type} {xs : List α} {Rx : α → Ty} {pr : α → Bool} {Ro : α → Ty} {is : List Nat} {Tx : α → List Ty} {elt : Expr} {scope : Scope} (i : Nat) (own : List (Str × Nat)) (hcalm : X.calm = true) (nd : X.N.Nodup)
    (hi : Iv X B Γ W tg iter (xs.map Rx)) (ok : BlkOk X.N X.env.scope scope own)
    (hg : ∀ x s0 H0 Cc cl fp, Gv (Bk X scope s0 H0 Cc cl fp) tg (Rx x) is (Tx x)) (hv : ∀ i ∈ is, i ∈ own.map (·.2)) (hl : xs.length < sizeLine)
    (hc : ∀ x ∈ xs, ∀ s0 H0 Cc cl fp D K, Qv (Bk X scope s0 H0 Cc cl fp) B (setG (wipeG Γ (own.map (·.2))) is (Tx x)) (W ++ [(D, K)]) ifs (· = pr x))
    (he : ∀ x ∈ xs, pr x = true → ∀ s0 H0 Cc cl fp D K, Ev (Bk X scope s0 H0 Cc cl fp) B (setG (wipeG Γ (own.map (·.2))) is (Tx x)) (W ++ [(D, K)]) elt (Ro x))
    (hr : Sj X B (Γ.set i (some (tyLst ((xs.filter pr).map Ro)))) W rest D) (hy : X.N[i]? = some x := by rfl) (hyl : X.env.scope.names.lookup x = some .local := by rfl)
    (hsw : swapsWith (.ListComp elt [⟨tg, iter, ifs, 0⟩] scope pos) (some (.Name x pos')) spos.line X.env = pure true := by exact sw_true rfl rfl rfl (by decide +kernel)) (hs : ∀ x, foldedSetIterable iter X.env x = pure x := by intro _; rfl) :
    Sj X B Γ W (.Assign [.Name x pos'] (.ListComp elt [⟨tg, iter, ifs, 0⟩] scope pos) spos :: rest) D :=
  Sj.setLcEx (Pb := fun x b => b = pr x) i own hcalm nd hi ok hg hv hl hc (fun x hx e => he x hx e.symm) (fun l fl => by rw [fl.eq]; exact hr) hy hyl hsw hs
theorem Sj.setLc {α : Type} {xs : List α} {Rx : α → Ty} {Ro : α → Ty} {is : List Nat} {Tx : α → List Ty} {elt : Expr} {scope : Scope} (i : Nat) (own : List (Str × Nat)) (hcalm : X.calm = true) (nd : X.N.Nodup)
    (hi : Iv X B Γ W tg iter (xs.map Rx)) (ok : BlkOk X.N X.env.scope scope own)
    (hg : ∀ x s0 H0 Cc cl fp, Gv (Bk X scope s0 H0 Cc cl fp) tg (Rx x) is (Tx x)) (hv : ∀ i ∈ is, i ∈ own.map (·.2)) (hl : xs.length < sizeLine)
    (he : ∀ x ∈ xs, ∀ s0 H0 Cc cl fp D K, Ev (Bk X scope s0 H0 Cc cl fp) B (setG (wipeG Γ (own.map (·.2))) is (Tx x)) (W ++ [(D, K)]) elt (Ro x))
    (hr : Sj X B (Γ.set i (some (tyLst (xs.map Ro)))) W rest D) (hy : X.N[i]? = some x := by rfl) (hyl : X.env.scope.names.lookup x = some .local := by rfl)
    (hsw : swapsWith (.ListComp elt [⟨tg, iter, [], 0⟩] scope pos) (some (.Name x pos')) spos.line X.env = pure true := by exact sw_true rfl rfl rfl (by decide +kernel)) (hs : ∀ x, foldedSetIterable iter X.env x = pure x := by intro _; rfl) :
    Sj X B Γ W (.Assign [.Name x pos'] (.ListComp elt [⟨tg, iter, [], 0⟩] scope pos) spos :: rest) D :=
  Sj.setLcF (pr := fun _ => true) i own hcalm nd hi ok hg hv hl (fun _ _ _ _ _ _ _ _ _ => Qv.nil) (fun x hx _ => he x hx) (by
    have e : xs.filter (fun _ => true) = xs := List.filter_eq_self.mpr fun _ _ => rfl
    rw [e]; exact hr) hy hyl hsw hs
/-! ### owned objects -/
theorem Sj.newL (i : Nat) (nd : X.N.Nodup) (hr : ∀ q, Sj X B (Γ.set i (some (tyP q))) (W ++ [(q, cLst [])]) rest D) (hi : X.N[i]? = some x := by rfl) (hx : Loc X.env.scope x := by first | exact Or.inl rfl | exact Or.inr rfl)
    (hs : swapsWith (.List [] pos) (some (.Name x pos')) spos.line X.env = pure false := by rfl) (hf : X.fn x = true ∨ X.env.scope.names.lookup x = some .local := by first | exact .inl rfl | exact .inr rfl) : Sj X B Γ W (.Assign [.Name x pos'] (.List [] pos) spos :: rest) D := fun σ C H S =>
  cons_ (ps_set nd hi hx (pe_lst pa_nil) hs hf) ⟨Nat.zero_le _, fun q hq => hr q _ C _ ⟨Sl.set i S.sl rfl, S.en.own hq trivial ⟨[], rfl, .nil⟩⟩⟩
theorem Sj.newD (i : Nat) (nd : X.N.Nodup) (hr : ∀ q, Sj X B (Γ.set i (some (tyP q))) (W ++ [(q, cD [])]) rest D) (hi : X.N[i]? = some x := by rfl) (hx : Loc X.env.scope x := by first | exact Or.inl rfl | exact Or.inr rfl)
    (hs : swapsWith (.Dict [] [] pos) (some (.Name x pos')) spos.line X.env = pure false := by rfl) (hf : X.fn x = true ∨ X.env.scope.names.lookup x = some .local := by first | exact .inl rfl | exact .inr rfl) : Sj X B Γ W (.Assign [.Name x pos'] (.Dict [] [] pos) spos :: rest) D := fun σ C H S =>
  cons_ (ps_set nd hi hx pe_dnewK hs hf) fun q hq => hr q _ C _ ⟨Sl.set i S.sl rfl, S.en.own hq trivial ⟨[], rfl, .nil⟩⟩
theorem Sj.append {q : Addr} (jw : Nat) (ho : Ev X B Γ W o (tyP q)) (hj : W[jw]? = some (q, cLst Ts)) (he : Ev X B Γ W e T) (hl : Ts.length < sizeLine) (hr : Sj X B Γ (W.set jw (q, cLst (Ts ++ [T]))) rest D) {cpos : Pos}
    (hs : swapsWith (.Call (.Attribute o "append" apos) [e] [] cpos) none spos.line X.env = pure false := by rfl)
    (hbase : attributeBase o "append" X.env (eval o X.env) = eval o X.env := by rfl)
    (hfew : ((backTo cpos (starEach [e] X.env)).all (fun x => !x.1) && (backToKw cpos (keywordEach [] X.env)).all (fun x => x.1.isSome)
      && decide ([e].length + ([] : List Keyword).length + (if ([] : List Keyword).isEmpty then 0 else 1) < 30)) = true := by rfl)
    (hline : (apos.endLine == cpos.line) = true := by rfl) (hst : starEach [e] X.env = (false, eval e X.env) :: starEach [] X.env := by rfl) (hplain : (backTo cpos (starEach [] X.env)).any (·.1) = false := by rfl) :
    Sj X B Γ W (.Expr (.Call (.Attribute o "append" apos) [e] [] cpos) spos :: rest) D := fun σ C H S =>
  cons_ (ps_expr (pe_bm PySem.F.plainAttrs_list PySem.F.slot_list_append PySem.F.type_list_append mt_append pe_s (pa_cons pe_s pa_nil hst) hbase hfew hline hst hplain) hs) (ho σ C H S _ fun v C1 H1 s1 E1 r => by
    cases r
    obtain ⟨o1, h1, _, vs1, rfl, al1⟩ := E1.look hj
    refine ⟨.inl ⟨rfl, vs1, SqL.of h1⟩, he σ C1 H1 (S.go s1 E1) _ fun y C2 H2 s2 E2 ry => ?_⟩
    obtain ⟨o2, h2, _, vs2, rfl, al2⟩ := E2.look hj
    exact ⟨q, vs2, y, rfl, rfl, h2, by rw [← Paired.length al2]; exact hl, hr σ C2 _ ⟨S.sl.mono (s1.trans s2), E2.put hj trivial ⟨_, rfl, Paired.app al2 (.cons ry .nil)⟩⟩⟩)
theorem Sj.dput {q : Addr} (jw : Nat) (hu : X.A.units + 1 < cLine) (hv : Ev X B Γ W value T) (ho : Ev X B Γ W o (tyP q)) (hj : W[jw]? = some (q, cD fs)) (hi : Ev X B Γ W e (tyS x)) (hl : fs.length < sizeLine) (hr : Sj X B Γ (W.set jw (q, cD (dput fs x T))) rest D)
    (hs : swapsWith value (some (.Subscript o e pos')) spos.line X.env = pure false := by rfl) : Sj X B Γ W (.Assign [.Subscript o e pos'] value spos :: rest) D := fun σ C H S =>
  cons_ (ps_dput hu pe_s pe_s pe_s hs) (hv σ C H S _ fun v C1 H1 s1 E1 r1 => ho σ C1 H1 (S.go s1 E1) _ fun w C2 H2 s2 E2 r2 => hi σ C2 H2 (S.go (s1.trans s2) E2) _ fun y C3 H3 s3 E3 r3 => by
    cases r2; cases r3
    obtain ⟨o1, h1, _, ks, rfl, al⟩ := E3.look hj
    exact ⟨q, _, rfl, DPut.k (k := Sum.inr x) h1 (by rw [← kvs_len al]; exact hl), hr σ C3 _ ⟨S.sl.mono (s1.trans (s2.trans s3)), E3.put hj trivial ⟨_, rfl, kvs_put al x (T.mono (s2.trans s3) r1)⟩⟩⟩)
theorem Sj.fld {q : Addr} (jw : Nat) (hv : Ev X B Γ W value T) (ho : Ev X B Γ W o (tyP q)) (hj : W[jw]? = some (q, cIns Cl fs)) (c : Cls X.K Cl) (n : NoAttr X.K Cl f) (ns : List Str) (hr : Sj X B Γ (W.set jw (q, cIns Cl (fs ++ [(f, T)]))) rest D) (hns : fs.map (·.1) = ns := by rfl) (hf : f ∉ ns := by decide +kernel) (hl : ns.length < 1000 := by decide +kernel)
    (hs : swapsWith value (some (.Attribute o f pos')) spos.line X.env = pure false := by rfl) : Sj X B Γ W (.Assign [.Attribute o f pos'] value spos :: rest) D := fun σ C H S =>
  cons_ (ps_fld pe_s pe_s hs) (hv σ C H S _ fun v C1 H1 s1 E1 r1 => ho σ C1 H1 (S.go s1 E1) _ fun w C2 H2 s2 E2 r2 => by
    cases r2
    obtain ⟨o1, h1, _, dx, vs, rfl, al⟩ := E2.look hj
    have hn : ∀ g ∈ fs.map (·.1), g ≠ f := fun g hg z => hf (by rw [← hns, ← z]; exact hg)
    refine ⟨q, Cl, dx, vs, rfl, h1, c, n, by rw [← fls_len al, ← List.length_map (f := (·.1)), hns]; exact hl, hr σ C2 _ ⟨S.sl.mono (s1.trans s2), E2.put hj trivial ⟨dx, _, rfl, ?_⟩⟩⟩
    have e : ∀ {fs : List (Str × Ty)}, (∀ g ∈ fs.map (·.1), g ≠ f) → fput f T fs = fs ++ [(f, T)] := fun {fs} h => by
      induction fs with
      | nil => rfl
      | cons q fs ih =>
        obtain ⟨g, t⟩ := q
        show (if g = f then _ else _) = _
        rw [if_neg (h g (by simp)), ih fun g hg => h g (by simp at hg ⊢; exact .inr hg)]
        rfl
    rw [← e hn]
    exact fls_put al (T.mono s2 r1))
end
end MJ
set_option maxHeartbeats 4000000
/-! Typed rules: loops, states told otherwise, defs. -/
namespace MJ
open PySem PySem.Spec L2
open PyProof.Rows hiding St
/-! ### states told otherwise -/
inductive Ws : Gm → Gm → Prop where
  | n : Ws [] []
  | k {o : Option Ty} {Γ Γ' : Gm} : Ws Γ Γ' → Ws (o :: Γ) (o :: Γ')
  | d {o : Option Ty} {Γ Γ' : Gm} : Ws Γ Γ' → Ws (o :: Γ) (none :: Γ')
  | c {T T' : Ty} {Γ Γ' : Gm} : (∀ v C, T.r v C → T'.r v C) → Ws Γ Γ' → Ws (some T :: Γ) (some T' :: Γ')
theorem Ws.refl : ∀ Γ : Gm, Ws Γ Γ
  | [] => .n
  | _ :: Γ => .k (Ws.refl Γ)
theorem Ws.len {Γ Γ' : Gm} (h : Ws Γ Γ') : Γ'.length = Γ.length := by
  induction h with
  | n => rfl
  | k _ ih => simp [ih]
  | d _ ih => simp [ih]
  | c _ _ ih => simp [ih]
theorem Ws.at {Γ Γ' : Gm} (h : Ws Γ Γ') : ∀ {i : Nat} {T' : Ty}, Γ'[i]? = some (some T') → ∃ T, Γ[i]? = some (some T) ∧ ∀ v C, T.r v C → T'.r v C := by
  induction h with
  | n => intro i T' e; simp at e
  | k _ ih =>
    intro i T' e
    cases i with
    | zero => exact ⟨T', e, fun _ _ h => h⟩
    | succ i => exact ih (by simpa using e)
  | d _ ih =>
    intro i T' e
    cases i with
    | zero => cases e
    | succ i => exact ih (by simpa using e)
  | c f _ ih =>
    intro i T' e
    cases i with
    | zero => cases e; exact ⟨_, rfl, f⟩
    | succ i => exact ih (by simpa using e)
theorem Sl.ws {Γ Γ' : Gm} {σ : L2.St} {C : Hp} (h : Sl Γ σ C) (w : Ws Γ Γ') : Sl Γ' σ C := ⟨by rw [w.len]; exact h.1, fun i T' e => let ⟨T, e1, f⟩ := w.at e; let ⟨v, e2, r⟩ := h.2 i T e1; ⟨v, e2, f v C r⟩⟩
theorem Stt.ws {B : Bs} {Γ Γ' : Gm} {W W' : Wl} {σ : L2.St} {C H : Hp} (S : Stt B Γ W σ C H) (w : Ws Γ Γ') (v : Wc W W') : Stt B Γ' W' σ C H := ⟨S.sl.ws w, S.en.wc v⟩
theorem back_st {B : Bs} {Γ Γ0 : Gm} {W W0 : Wl} {σ σ0 : L2.St} {C C0 H H0 : Hp} (S0 : Stt B Γ0 W0 σ0 C0 H0) (S : Stt ⟨C0, B.g⟩ Γ W σ C H) : Stt B Γ W σ C H := ⟨S.sl, S0.en.back S.en⟩
section
variable {X : Cx} {B : Bs} {Γ Γ' : Gm} {W W' : Wl} {a b c e o tg iter value : Expr} {es tgs ifs : List Expr} {pos pos' apos p spos : Pos} {R Ra Rb T : Ty} {Ts Us : List Ty} {K : Con} {x f m : Str} {fs : List (Str × Ty)} {C Cl : Addr} {i j : Int} {k n : Nat}
variable {st : Stmt} {rest A E body : List Stmt} {D : Ends} {N : List Str}
theorem Sj.ws (w : Ws Γ Γ') (v : Wc W W') (h : Sj X B Γ' W' rest D) : Sj X B Γ W rest D := fun σ C H S => h σ C H (S.ws w v)
/-- the end of a turn -/
theorem Sj.at (w : Ws Γ Γ') (v : Wc W W') {Bk : L2.St → Hp → Prop} : Sj X B Γ W [] (Dl D (At B Γ' W') Bk) := Sj.nil fun σ C H S => ⟨C, S.ws w v⟩
/-- an owned object is given away: the slot i holds it -/
theorem Sj.freeze {q : Addr} (jw : Nat) (i : Nat) (hj : W[jw]? = some (q, K)) (hi : Γ[i]? = some (some (tyP q))) (h : Sj X B (Γ.set i (some (tyObj K))) (W.eraseIdx jw) rest D) : Sj X B Γ W rest D := fun σ C H S => by
  obtain ⟨o, hn, r, sC, E⟩ := S.en.freeze hj
  obtain ⟨v, e, rv⟩ := S.sl.2 i _ hi
  cases rv
  refine h σ _ H ⟨?_, E⟩
  have hσ : σ.set i (some (.ref q)) = σ := by
    refine List.ext_getElem? fun j => ?_
    rw [List.getElem?_set]
    split
    · rename_i z
      subst z
      rw [if_pos (List.getElem?_eq_some_iff.mp e).1, e]
    · rfl
  rw [← hσ]
  exact Sl.set i (S.sl.mono sC) ⟨q, o, rfl, upd_same, K.mono sC r⟩
/-- .. the field f of the owned instance at jo holds it -/
theorem Sj.freezeF {q po : Addr} {fs1 fs2 : List (Str × Ty)} (jw jo : Nat) (hj : W[jw]? = some (q, K)) (hne : jo ≠ jw) (ho : W[jo]? = some (po, cIns Cl (fs1 ++ (f, tyP q) :: fs2)))
    (h : Sj X B Γ ((W.set jo (po, cIns Cl (fs1 ++ (f, tyObj K) :: fs2))).eraseIdx jw) rest D) : Sj X B Γ W rest D := fun σ C H S => by
  obtain ⟨o1, h1, m1, dx, vs, rfl, al⟩ := S.en.look ho
  have hj' : (W.set jo (po, cEx (fun w => w = vs) fun w => ⟨fun o _ => o = .ins Cl dx w, fun _ h => h⟩))[jw]? = some (q, K) := by rw [List.getElem?_set_ne hne]; exact hj
  have e0 : upd H po (.ins Cl dx vs) = H := by
    funext b; unfold upd; split
    · rename_i z; rw [z, h1]
    · rfl
  have E0 := S.en.put (K' := cEx (fun w => w = vs) fun w => ⟨fun o _ => o = .ins Cl dx w, fun _ h => h⟩) (o' := .ins Cl dx vs) ho trivial ⟨vs, rfl, rfl⟩
  rw [e0] at E0
  obtain ⟨o, hn, r, sC, E⟩ := E0.freeze hj'
  refine h σ _ H ⟨S.sl.mono sC, ?_⟩
  have hW : (W.set jo (po, cEx (fun w => w = vs) fun w => ⟨fun o _ => o = .ins Cl dx w, fun _ h => h⟩)).eraseIdx jw = ((W.set jo (po, cEx (fun w => w = vs) fun w => ⟨fun o _ => o = .ins Cl dx w, fun _ h => h⟩)).eraseIdx jw) := rfl
  have fl : Fls (fs1 ++ (f, tyObj K) :: fs2) vs (upd C q o) := by
    have go : ∀ (fs1 : List (Str × Ty)) (vs : List (Str × V)), Fls (fs1 ++ (f, tyP q) :: fs2) vs C → Fls (fs1 ++ (f, tyObj K) :: fs2) vs (upd C q o) := by
      intro fs1
      induction fs1 with
      | nil =>
        intro vs al
        cases al with
        | cons r0 t => exact .cons ⟨r0.1, by rw [show _ = V.ref q from r0.2]; exact ⟨q, o, rfl, upd_same, K.mono sC r⟩⟩ (Paired.mapP t fun a _ z => ⟨z.1, a.2.mono sC z.2⟩)
      | cons a fs1 ih =>
        intro vs al
        cases al with
        | cons r0 t => exact .cons ⟨r0.1, a.2.mono sC r0.2⟩ (ih _ t)
    exact go fs1 vs al
  obtain ⟨G, E⟩ := E
  refine ⟨G, E.gh, E.ch, E.cc, E.dj, E.g0, ?_, fun z hz => ?_⟩
  · have e : ∀ w w' : Con, (((W.set jo (po, w)).eraseIdx jw).map (·.1)) = (((W.set jo (po, w')).eraseIdx jw).map (·.1)) := fun w w' => by
      refine List.ext_getElem? fun i => ?_
      rw [List.getElem?_map, List.getElem?_map, List.getElem?_eraseIdx, List.getElem?_eraseIdx]
      have one : ∀ i : Nat, ((W.set jo (po, w))[i]?).map (·.1) = ((W.set jo (po, w'))[i]?).map (·.1) := fun i => by
        rw [List.getElem?_set, List.getElem?_set]
        split
        · split <;> rfl
        · rfl
      split
      · exact one _
      · exact one _
    rw [e _ (cEx (fun w => w = vs) fun w => ⟨fun o _ => o = .ins Cl dx w, fun _ h => h⟩)]
    exact E.nd
  · by_cases hz1 : z = (po, cIns Cl (fs1 ++ (f, tyObj K) :: fs2))
    · subst hz1
      have hm : (po, cEx (fun w => w = vs) fun w => (⟨fun o _ => o = .ins Cl dx w, fun _ h => h⟩ : Con)) ∈ (W.set jo (po, cEx (fun w => w = vs) fun w => ⟨fun o _ => o = .ins Cl dx w, fun _ h => h⟩)).eraseIdx jw := by
        rw [List.mem_eraseIdx_iff_getElem?]
        exact ⟨jo, hne, List.getElem?_set_self (List.getElem?_eq_some_iff.mp ho).1⟩
      obtain ⟨a1, a2, u, a3, a4, w, ew, eu⟩ := E.ow _ hm
      cases ew
      have eu : u = .ins Cl dx vs := eu
      subst eu
      exact ⟨a1, a2, _, a3, trivial, dx, vs, rfl, fl⟩
    · rw [List.mem_eraseIdx_iff_getElem?] at hz
      obtain ⟨i, hi, ez⟩ := hz
      by_cases ij : i = jo
      · subst ij
        rw [List.getElem?_set_self (List.getElem?_eq_some_iff.mp ho).1] at ez
        exact absurd (Option.some.inj ez).symm hz1
      · rw [List.getElem?_set_ne (Ne.symm ij)] at ez
        refine E.ow z ?_
        rw [List.mem_eraseIdx_iff_getElem?]
        exact ⟨i, hi, by rw [List.getElem?_set_ne (Ne.symm ij)]; exact ez⟩
/-! ### loops -/
theorem fin_back {B : Bs} {Γ0 : Gm} {W0 : Wl} {σ0 : L2.St} {C0 H0 : Hp} (S0 : Stt B Γ0 W0 σ0 C0 H0) {Wf : Wl} {R : Ty} (fin : Fin B Wf R D) : Fin ⟨C0, B.g⟩ Wf R D := fun v C H E r => fin v C H (S0.en.back E) r
/-- for tg in iter -/
theorem for_run {α : Type} {xs : List α} {Rx : α → Ty} {is : List Nat} {Tx : α → List Ty} (hcalm : X.calm = true) (hp : PassesOwn (model X.prog X.w) X.A X.env X.xe) (hi : Iv X B Γ W tg iter (xs.map Rx)) (hg : ∀ x, Gv X tg (Rx x) is (Tx x)) (G : Nat → Gm) (WW : Nat → Wl)
    {σ : L2.St} {C H : Hp} (S : Stt B Γ W σ C H) (w0 : Sl (G 0) σ C) (v0 : Wc W (WW 0))
    (hb : ∀ B', (∀ Wf R, Fin B Wf R D → Fin B' Wf R D) → (∀ Γb Wb σ C H, Stt B' Γb Wb σ C H → Stt B Γb Wb σ C H) → B'.g = B.g → ∀ n x, xs[n]? = some x → Sj X B' (setG (G n) is (Tx x)) (WW n) body (Dl D (At B' (G (n + 1)) (WW (n + 1))) D.nx))
    (hr : ∀ σ C H, Stt B (G xs.length) (WW xs.length) σ C H → D.nx σ H) (hs : ∀ x, foldedSetIterable iter X.env x = pure x := by intro _; rfl) : sS X (.For tg iter body [] spos) D σ H := by
  obtain ⟨wi, pi, qi⟩ := hi
  refine toS (ps_for (g := sG X tg) hp hcalm pi ⟨fun pins s σ H v u Q I r h => h pins s u I r⟩ pb_s hs) ?_
  refine qi σ C H S _ fun J C1 H1 s1 E1 wk => ?_
  have S1 := S.go s1 E1
  have w : Walk J xs.length (fun H => ∃ C W', Same C1 C ∧ EntE B C W' H) (fun i H v H' => J.yld i H v H') :=
    ⟨fun i H hi ⟨C, W', s, E⟩ => wk.goes i C H W' (by rw [List.length_map]; exact hi) s E, fun H ⟨C, W', s, E⟩ => by have := wk.stops C H W' s E; rwa [List.length_map] at this, fun _ _ _ _ _ _ y => y⟩
  refine for_it w (fun n σ H => ∃ C, Stt ⟨C1, B.g⟩ (G n) (WW n) σ C H) ⟨C1, w0.mono s1, (E1.wc v0).rebase⟩ (fun n σ H _ ⟨C, S'⟩ => ⟨C, _, S'.en.cc, S1.en.back S'.en⟩) (fun n v σ2 H2 H3 hn ⟨C2, S2⟩ y => ?_) (fun σ2 H2 ⟨C2, S2⟩ => hr σ2 C2 H2 (back_st S1 S2))
  have hx : xs[n]? = some xs[n] := by rw [List.getElem?_eq_getElem hn]
  generalize hxe : xs[n] = x at hx
  have Sb := back_st S1 S2
  obtain ⟨C3, s3, E3, rv⟩ := wk.yields n C2 H2 _ v H3 (Rx x) (by rw [List.getElem?_map, hx]; rfl) S2.en.cc Sb.en y
  obtain ⟨g, pg, qg⟩ := hg x
  intro pins s u I ru
  refine pg.run pins s _ H3 v u _ I ru (qg B _ _ C3 H3 v _ E3 rv fun ws al => ?_)
  have E3' : EntE ⟨C1, B.g⟩ C3 (WW n) H3 := by
    obtain ⟨G3, E3⟩ := E3
    exact ⟨G3, E3.gh, E3.ch, S2.en.cc.trans s3, fun a o o' e e' => E1.cc a o (E3.dj a o o' e e'), E3.g0, E3.nd, E3.ow⟩
  exact hb ⟨C1, B.g⟩ (fun Wf R fin => fin_back S1 fin) (fun Γb Wb σ C H S => back_st S1 S) rfl n x hx _ C3 H3 ⟨sl_set al (S2.sl.mono s3), E3'⟩
theorem Sj.for_ {α : Type} {xs : List α} {Rx : α → Ty} {is : List Nat} {Tx : α → List Ty} (hcalm : X.calm = true) (hp : PassesOwn (model X.prog X.w) X.A X.env X.xe) (hi : Iv X B Γ W tg iter (xs.map Rx)) (hg : ∀ x, Gv X tg (Rx x) is (Tx x)) (G : Nat → Gm) (WW : Nat → Wl)
    (w0 : Ws Γ (G 0)) (v0 : Wc W (WW 0))
    (hb : ∀ B', (∀ Wf R, Fin B Wf R D → Fin B' Wf R D) → (∀ Γb Wb σ C H, Stt B' Γb Wb σ C H → Stt B Γb Wb σ C H) → B'.g = B.g → ∀ n x, xs[n]? = some x → Sj X B' (setG (G n) is (Tx x)) (WW n) body (Dl D (At B' (G (n + 1)) (WW (n + 1))) (sB X rest D)))
    (hr : Sj X B (G xs.length) (WW xs.length) rest D) (hs : ∀ x, foldedSetIterable iter X.env x = pure x := by intro _; rfl) : Sj X B Γ W (.For tg iter body [] spos :: rest) D := fun σ C H S =>
  cons_ ps_s (for_run (D := Dn D (sB X rest D)) hcalm hp hi hg G WW S (S.sl.ws w0) v0 hb hr hs)
/-- while c, by a measure of a state z -/
theorem Sj.while_ {α : Type} (hp : PassesOwn (model X.prog X.w) X.A X.env X.xe) (I : α → Prop) (μ : α → Nat) (G : α → Gm) (WW : α → Wl) (t : α → Bool) (z0 : α) (i0 : I z0) (w0 : Ws Γ (G z0)) (v0 : Wc W (WW z0))
    (hc : ∀ z, I z → Tv X B (G z) (WW z) c (· = t z)) (hb : ∀ z, I z → t z = true → ∃ z', I z' ∧ μ z' < μ z ∧ Sj X B (G z) (WW z) body (Dl D (At B (G z') (WW z')) (sB X rest D)))
    (hr : ∀ z, I z → t z = false → Sj X B (G z) (WW z) rest D) : Sj X B Γ W (.While c body [] spos :: rest) D := fun σ C H S =>
  cons_ (ps_while hp pt_s pb_s) (by
    refine ⟨fun m σ H => ∃ z C, m = μ z ∧ I z ∧ Stt B (G z) (WW z) σ C H, ⟨_, z0, C, rfl, i0, S.ws w0 v0⟩, ?_⟩
    rintro m σ H ⟨z, C, rfl, iz, S⟩
    refine hc z iz σ C H S _ fun bb C1 H1 s1 E1 eb => ?_
    cases bb with
    | true =>
      obtain ⟨z', iz', lt, h⟩ := hb z iz eb.symm
      exact iteT ⟨At B (G z') (WW z'), fun σ' H' ⟨C', S'⟩ => ⟨μ z', lt, z', C', rfl, iz', S'⟩, h σ C1 H1 (S.go s1 E1)⟩
    | false => exact iteF (hr z iz eb.symm σ C1 H1 (S.go s1 E1)))
open Classical in
theorem back2 {B : Bs} {C1 C' H1 H' g' : Hp} {W W' : Wl} (E : EntE B C1 W H1) (E' : EntE ⟨C1, g'⟩ C' W' H') (sg : Same B.g g') : EntE B C' W' H' := by
  obtain ⟨G, E⟩ := E
  obtain ⟨G', E'⟩ := E'
  refine ⟨fun a => if (∃ o, B.g a = some o) ∨ ∃ q ∈ W', q.1 = a then G' a else none, fun a u e => ?_, E'.ch, E.cc.trans E'.cc, fun a u u' e e' => ?_, fun a u e => ?_, E'.nd, fun q hq => ?_⟩
  · split at e
    · exact E'.gh a u e
    · cases e
  · split at e'
    · rename_i hc
      rcases hc with ⟨w, hw⟩ | ⟨q, hq, rfl⟩
      · exact E.dj a u w (E'.dj a u u' e e') (E.g0 a w hw)
      · have := (E'.ow q hq).2.1
        rw [this] at e; cases e
    · cases e'
  · rw [if_pos (.inl ⟨u, e⟩)]; exact E'.g0 a u (sg a u e)
  · obtain ⟨a1, a2, u, a3, a4, a5⟩ := E'.ow q hq
    exact ⟨sg.free a1, a2, u, by rw [if_pos (.inr ⟨q, hq, rfl⟩)]; exact a3, a4, a5⟩
/-- a loop over a core dict, which is locked meanwhile -/
theorem Sj.forD {α : Type} {xs : List α} {Rx : α → Ty} {is : List Nat} {Tx : α → List Ty} (hcalm : X.calm = true) (hp : PassesOwn (model X.prog X.w) X.A X.env X.xe) (Γq : Addr → Gm)
    (hq : ∀ σ C, Sl Γ σ C → ∃ q ks, C q = some (.dK ks) ∧ Kvs fs ks C ∧ Sl (Γq q) σ C) (hi : ∀ B' q ob ks, B'.g q = some (.frz ob (.dK ks)) → Kvs fs ks B'.c → Iv X B' (Γq q) W tg iter (xs.map Rx))
    (hg : ∀ x, Gv X tg (Rx x) is (Tx x)) (G : Nat → Gm) (WW : Nat → Wl) (w0 : Ws Γ (G 0)) (v0 : Wc W (WW 0))
    (hb : ∀ B' D', (∀ Wf R, Fin B Wf R D → Fin B' Wf R D') → ∀ Bk n x, xs[n]? = some x → Sj X B' (setG (G n) is (Tx x)) (WW n) body (Dl D' (At B' (G (n + 1)) (WW (n + 1))) Bk))
    (hr : Sj X B (G xs.length) (WW xs.length) rest D) (hs : ∀ x, foldedSetIterable iter X.env x = pure x := by intro _; rfl) : Sj X B Γ W (.For tg iter body [] spos :: rest) D := fun σ C H S => by
  obtain ⟨q, ks, hC, hk, sq⟩ := hq σ C S.sl
  rcases S.en.ch q _ hC with hH | ⟨ob, ks', e, hH⟩
  · have eC : upd C q (.dK ks) = C := by
      funext b; unfold upd; split
      · rename_i z; rw [z, hC]
      · rfl
    refine cons_ (ps_lock ps_s) ⟨q, .dK ks, hH, trivial, fun ob => ?_⟩
    have E1 := S.en.rebase.lock (ob := ob) hC hH
    have un : ∀ {C' H' : Hp} {W' : Wl}, EntE ⟨upd C q (.dK ks), upd B.g q (.frz ob (.dK ks))⟩ C' W' H' → H' q = some (.frz ob (.dK ks)) ∧ EntE B C' W' (upd H' q (.dK ks)) := fun {C' H' W'} E' =>
      let ⟨a, b⟩ := S.en.rebase.unlock hC hH E'
      ⟨a, S.en.back b⟩
    refine for_run hcalm hp (hi _ q ob ks upd_same (by show Kvs fs ks (upd C q (.dK ks)); rw [eC]; exact hk)) hg G WW ⟨sq, E1⟩ (S.sl.ws w0) v0 (fun B' fb st _ n x hx => hb B' _ (fun Wf R fin => fb Wf R fun v C' H' E' r => ?_) _ n x hx) (fun σ' C' H' S' => ?_) hs
    · obtain ⟨a, b⟩ := un E'
      exact ⟨a, fin v C' _ b r⟩
    · obtain ⟨a, b⟩ := un S'.en
      exact ⟨a, hr σ' C' _ ⟨S'.sl, b⟩⟩
  · cases e
    have hBg : ∀ u, B.g q = some u → u = .frz ob (.dK ks) := fun u e => by
      obtain ⟨G0, E0⟩ := S.en
      have := E0.gh q u (E0.g0 q u e)
      rw [hH] at this; cases this; rfl
    have sg : Same B.g (upd B.g q (.frz ob (.dK ks))) := fun a u e => by
      by_cases ha : a = q
      · subst ha; rw [hBg u e]; exact upd_same
      · rw [upd_ne ha]; exact e
    have E1 : EntE ⟨C, upd B.g q (.frz ob (.dK ks))⟩ C W H := by
      obtain ⟨G0, E0⟩ := S.en
      have hG : ∀ u, G0 q = some u → u = .frz ob (.dK ks) := fun u e => by
        have := E0.gh q u e
        rw [hH] at this; cases this; rfl
      refine ⟨upd G0 q (.frz ob (.dK ks)), fun a u e => ?_, E0.ch, Same.refl _, fun a u u' e e' => e, fun a u e => ?_, E0.nd, fun z hz => ?_⟩
      · by_cases ha : a = q
        · subst ha; rw [upd_same] at e; cases e; exact hH
        · rw [upd_ne ha] at e; exact E0.gh a u e
      · by_cases ha : a = q
        · subst ha; have e : (upd B.g a (.frz ob (.dK ks))) a = some u := e; rw [upd_same] at e ⊢; exact e
        · have e : (upd B.g q (.frz ob (.dK ks))) a = some u := e; rw [upd_ne ha] at e ⊢; exact E0.g0 a u e
      · obtain ⟨a1, a2, u, a3, a4, a5⟩ := E0.ow z hz
        have ha : z.1 ≠ q := fun z' => by rw [z', hC] at a2; cases a2
        exact ⟨by show (upd B.g q (.frz ob (.dK ks))) z.1 = none; rw [upd_ne ha]; exact a1, a2, u, by rw [upd_ne ha]; exact a3, a4, a5⟩
    exact cons_ ps_s (for_run (D := Dn D (sB X rest D)) hcalm hp (hi ⟨C, upd B.g q (.frz ob (.dK ks))⟩ q ob ks upd_same hk) hg G WW ⟨sq, E1⟩ (S.sl.ws w0) v0 (fun B' fb st _ n x hx => hb B' _ (fun Wf R fin => fb Wf R fun v C' H' E' r => fin v C' H' (back2 S.en E' sg) r) _ n x hx) (fun σ' C' H' S' => hr σ' C' H' ⟨S'.sl, back2 S.en S'.en sg⟩) hs)
end
/-! ### defs -/
section
variable {P : Program} {w : World} {K : PySem.W.Frag} {mg : Str → Option Value} {base : Heap}
abbrev XC (P : Program) (w : World) (K : PySem.W.Frag) (mg : Str → Option Value) (base : Heap) (N : List Str) (qual : Str) (st : Stmt) (f : Addr) (cdv : Value) (A : Around) (outer : List Env) (s : Shared) (H : Hp) (E : XK) : Cx := (cxOf CX0 P w K mg base N qual (defScope st) f cdv A outer s H E).nox
def stG (Ts : List Ty) (n : Nat) : Gm := Ts.map some ++ List.replicate (n - Ts.length) none
theorem sl_start {Ts : List Ty} {vs : List V} {N : List Str} {C : Hp} (al : Als Ts vs C) : Sl (stG Ts N.length) (L2.start N vs) C := by
  have hl := Paired.length al
  refine ⟨by unfold stG L2.start; simp [hl], fun i T e => ?_⟩
  unfold stG at e
  unfold L2.start
  by_cases hi : i < Ts.length
  · rw [List.getElem?_append_left (by simpa using hi), List.getElem?_map] at e
    cases z : Ts[i]? with
    | none => rw [z] at e; cases e
    | some U =>
      rw [z] at e
      cases e
      obtain ⟨v, hv, r⟩ := als_at al z
      exact ⟨v, by rw [List.getElem?_append_left (by simp; omega), List.getElem?_map, hv]; rfl, r⟩
  · rw [List.getElem?_append_right (by simpa using hi), List.getElem?_replicate] at e
    split at e <;> cases e
abbrev BodyT (P : Program) (w : World) (K : PySem.W.Frag) (mg : Str → Option Value) (base : Heap) (N : List Str) (qual : Str) (st : Stmt) (f : Addr) (k : Nat) (J : Cx → Prop) : Prop :=
  ∀ (cdv : Value) (A : Around) (outer : List Env) (s : Shared) (H : Hp) (E : XK), Room k (A.deeper (envOfC qual (defScope st) s.heap.objs.size f cdv)) → J (XC P w K mg base N qual st f cdv A outer s H E)
theorem bodyP {N : List Str} {qual : Str} {st : Stmt} {f : Addr} {k : Nat} {ι : Type} {pre : ι → Prop} {ar : ι → List Ty} {R : ι → Ty}
    (h : BodyT P w K mg base N qual st f k fun X => ∀ (i : ι) (B : Bs) (D : Ends), pre i → Fin B [] (R i) D → (∀ σ C H, EntE B C [] H → (R i).r .non C → D.nx σ H) → Sj X B (stG (ar i) N.length) [] (defBody st) D) :
    ∀ (cdv : Value) (A : Around) (outer : List Env) (s : Shared) (H : Hp) (vs : List V) (Q : VK) (E : XK), Room k (A.deeper (envOfC qual (defScope st) s.heap.objs.size f cdv)) → spP pre ar R vs H Q E →
      ∃ t, PSs (cxOf CX0 P w K mg base N qual (defScope st) f cdv A outer s H E).nox (defBody st) t ∧ t { nx := fun _ H' => Q .non H', rt := Q } (L2.start N vs) H := by
  rintro cdv A outer s H vs Q E hr ⟨i, C, g, hp, En, al, q⟩
  exact ⟨_, pb_s, h cdv A outer s H E hr i ⟨C, g⟩ _ hp (fun v C' H' E' r => q v C' H' E' r) (fun σ C' H' E' r => q .non C' H' E' r) _ C H ⟨sl_start al, En⟩⟩
theorem bodyW {N : List Str} {qual : Str} {st : Stmt} {f : Addr} {k : Nat} {ι : Type} {pre : ι → Prop} {Kk Kk' : ι → Con} {ar : ι → List Ty} {R : ι → Ty}
    (h : BodyT P w K mg base N qual st f k fun X => ∀ (i : ι) (B : Bs) (D : Ends) (p : Addr), pre i → Fin B [(p, Kk' i)] (R i) D → (∀ σ C H, EntE B C [(p, Kk' i)] H → (R i).r .non C → D.nx σ H) → Sj X B (stG (tyP p :: ar i) N.length) [(p, Kk i)] (defBody st) D) :
    ∀ (cdv : Value) (A : Around) (outer : List Env) (s : Shared) (H : Hp) (vs : List V) (Q : VK) (E : XK), Room k (A.deeper (envOfC qual (defScope st) s.heap.objs.size f cdv)) → spW pre Kk ar Kk' R vs H Q E →
      ∃ t, PSs (cxOf CX0 P w K mg base N qual (defScope st) f cdv A outer s H E).nox (defBody st) t ∧ t { nx := fun _ H' => Q .non H', rt := Q } (L2.start N vs) H := by
  rintro cdv A outer s H vs Q E hr ⟨i, C, g, p, ws, hp, En, rfl, al, q⟩
  exact ⟨_, pb_s, h cdv A outer s H E hr i ⟨C, g⟩ _ p hp (fun v C' H' E' r => q v C' H' E' r) (fun σ C' H' E' r => q .non C' H' E' r) _ C H ⟨sl_start (.cons rfl al), En⟩⟩
end
end MJ
set_option maxHeartbeats 4000000
/-! Typed rules: built-ins one by one. -/
namespace MJ
open PySem PySem.Spec L2
open PyProof.Rows hiding St
def tySeq (Ts : List Ty) : Ty := ⟨fun v H => (tyLst Ts).r v H ∨ (tyTup Ts).r v H, fun s h => h.imp ((tyLst Ts).mono s) ((tyTup Ts).mono s)⟩
def tySet (w : World) (xs : List Str) : Ty := ⟨fun v H => ∃ p, v = .ref p ∧ H p = some (MR.TSetO w p (· ∈ xs)), fun s ⟨p, e, h⟩ => ⟨p, e, s p _ h⟩⟩
section
variable {X : Cx} {B : Bs} {Γ Γ' : Gm} {W W' : Wl} {a b c e o tg iter value : Expr} {es tgs ifs : List Expr} {pos pos' apos p spos : Pos} {R Ra Rb T : Ty} {Ts Us : List Ty} {K : Con} {x f m : Str} {fs : List (Str × Ty)} {C Cl : Addr} {i j : Int} {k n : Nat}
variable {α : Type}
theorem absI (hm : X.mg "abs" = none) (h : Ev X B Γ W e (tyI i)) (hg : Gl X "abs" := by rfl) (he : starEach [e] X.env = (false, eval e X.env) :: starEach [] X.env := by rfl) (hpl : (backTo pos (starEach [] X.env)).any (·.1) = false := by rfl) : Ev X B Γ W (.Call (.Name "abs" p) [e] [] pos) (tyI (i.natAbs : Int)) :=
  Ev.bi call_abs hm boot_abs (.cons h .nil he) (fun vs C H Q E al k => by
    obtain ⟨v, rfl, r⟩ := als1 al
    cases r
    refine ⟨i, rfl, ?_⟩
    have e : (if i < 0 then -i else i) = (i.natAbs : Int) := by split <;> omega
    rw [e]; exact k _ C H (Same.refl _) E rfl) hg (by decide) (by decide) he hpl
theorem intI (hm : X.mg "int" = none) (h : Ev X B Γ W e (tyI i)) (hg : Gl X "int" := by rfl) (he : starEach [e] X.env = (false, eval e X.env) :: starEach [] X.env := by rfl) (hpl : (backTo pos (starEach [] X.env)).any (·.1) = false := by rfl) : Ev X B Γ W (.Call (.Name "int" p) [e] [] pos) (tyI i) :=
  Ev.bt call_int1 hm boot_int (.cons h .nil he) (fun vs C H Q E al k => by
    obtain ⟨v, rfl, r⟩ := als1 al
    exact .inl ⟨i, by rw [show v = _ from r], k _ C H (Same.refl _) E rfl⟩) hg (by decide) (by decide) he hpl
theorem intB {bb : Bool} (hm : X.mg "int" = none) (h : Ev X B Γ W e (tyB bb)) (hg : Gl X "int" := by rfl) (he : starEach [e] X.env = (false, eval e X.env) :: starEach [] X.env := by rfl) (hpl : (backTo pos (starEach [] X.env)).any (·.1) = false := by rfl) : Ev X B Γ W (.Call (.Name "int" p) [e] [] pos) (tyI (if bb then 1 else 0)) :=
  Ev.bt call_int1 hm boot_int (.cons h .nil he) (fun vs C H Q E al k => by
    obtain ⟨v, rfl, r⟩ := als1 al
    exact .inr ⟨bb, by rw [show v = _ from r], k _ C H (Same.refl _) E rfl⟩) hg (by decide) (by decide) he hpl
theorem max2 (hc : X.calm = true) (hm : X.mg "max" = none) (h : Ev X B Γ W a (tyI i)) (h2 : Ev X B Γ W b (tyI j)) (hg : Gl X "max" := by rfl) (he : starEach [a, b] X.env = (false, eval a X.env) :: starEach [b] X.env := by rfl) (he2 : starEach [b] X.env = (false, eval b X.env) :: starEach [] X.env := by rfl) (hpl : (backTo pos (starEach [b] X.env)).any (·.1) = false := by rfl) :
    Ev X B Γ W (.Call (.Name "max" p) [a, b] [] pos) (tyI (max i j)) :=
  Ev.bi (call_max2 hc) hm (by decide +kernel) (.cons h (.cons h2 .nil he2) he) (fun vs C H Q E al k => by
    obtain ⟨v, w, rfl, r, r2⟩ := als2 al
    cases r; cases r2
    refine ⟨i, j, rfl, ?_⟩
    have e : (if j > i then j else i) = max i j := by split <;> omega
    rw [e]; exact k _ C H (Same.refl _) E rfl) hg (by decide) (by decide) he hpl
section
variable (hg : Gl X x := by rfl) (he : starEach [e] X.env = (false, eval e X.env) :: starEach [] X.env := by rfl) (hpl : (backTo pos (starEach [] X.env)).any (·.1) = false := by rfl)
theorem intsL {xs : List α} {g : α → Int} {C H : Hp} {v : V} (E : EntE B C W H) (h : (tyLst (xs.map fun x => tyI (g x))).r v C) : ∃ p, v = .ref p ∧ H p = some (.lst ((xs.map g).map V.int)) := by
  obtain ⟨p, vs, rfl, _, hp, al⟩ := getL E h
  have := als_V (fun x => V.int (g x)) al
  subst this
  exact ⟨p, rfl, by rw [hp, List.map_map]; rfl⟩
theorem sumL {xs : List α} {g : α → Int} (hc : X.calm = true) (hm : X.mg "sum" = none) (h : Ev X B Γ W e (tyLst (xs.map fun x => tyI (g x)))) (hg : Gl X "sum" := by rfl) (he : starEach [e] X.env = (false, eval e X.env) :: starEach [] X.env := by rfl) (hpl : (backTo pos (starEach [] X.env)).any (·.1) = false := by rfl) :
    Ev X B Γ W (.Call (.Name "sum" p) [e] [] pos) (tyI (xs.map g).sum) :=
  Ev.bi (cr_sum hc) hm (by decide +kernel) (.cons h .nil he) (fun vs C H Q E al k => by
    obtain ⟨v, rfl, r⟩ := als1 al
    obtain ⟨p, rfl, hp⟩ := intsL E r
    exact ⟨p, _, rfl, SqL.of hp, k _ C H (Same.refl _) E rfl⟩) hg (by decide) (by decide) he hpl
theorem maxL {xs : List α} {g : α → Int} {m : Int} (hc : X.calm = true) (hm : X.mg "max" = none) (h : Ev X B Γ W e (tyLst (xs.map fun x => tyI (g x)))) (h1 : m ∈ xs.map g) (h2 : ∀ y ∈ xs.map g, y ≤ m) (hg : Gl X "max" := by rfl) (he : starEach [e] X.env = (false, eval e X.env) :: starEach [] X.env := by rfl) (hpl : (backTo pos (starEach [] X.env)).any (·.1) = false := by rfl) :
    Ev X B Γ W (.Call (.Name "max" p) [e] [] pos) (tyI m) :=
  Ev.bi (cr_max hc) hm (by decide +kernel) (.cons h .nil he) (fun vs C H Q E al k => by
    obtain ⟨v, rfl, r⟩ := als1 al
    obtain ⟨p, rfl, hp⟩ := intsL E r
    refine ⟨p, _, rfl, SqL.of hp, List.length_pos_of_mem h1, fun m' hm' hall => k _ C H (Same.refl _) E ?_⟩
    have e : m' = m := Int.le_antisymm (h2 m' hm') (hall m h1)
    rw [e]; rfl) hg (by decide) (by decide) he hpl
theorem minL {xs : List α} {g : α → Int} {m : Int} (hc : X.calm = true) (hm : X.mg "min" = none) (h : Ev X B Γ W e (tyLst (xs.map fun x => tyI (g x)))) (h1 : m ∈ xs.map g) (h2 : ∀ y ∈ xs.map g, m ≤ y) (hg : Gl X "min" := by rfl) (he : starEach [e] X.env = (false, eval e X.env) :: starEach [] X.env := by rfl) (hpl : (backTo pos (starEach [] X.env)).any (·.1) = false := by rfl) :
    Ev X B Γ W (.Call (.Name "min" p) [e] [] pos) (tyI m) :=
  Ev.bi (cr_min hc) hm (by decide +kernel) (.cons h .nil he) (fun vs C H Q E al k => by
    obtain ⟨v, rfl, r⟩ := als1 al
    obtain ⟨p, rfl, hp⟩ := intsL E r
    refine ⟨p, _, rfl, SqL.of hp, List.length_pos_of_mem h1, fun m' hm' hall => k _ C H (Same.refl _) E ?_⟩
    have e : m' = m := Int.le_antisymm (hall m h1) (h2 m' hm')
    rw [e]; rfl) hg (by decide) (by decide) he hpl
theorem allL {xs : List α} {g : α → Bool} (hc : X.calm = true) (hm : X.mg "all" = none) (h : Ev X B Γ W e (tyLst (xs.map fun x => tyB (g x)))) (hg : Gl X "all" := by rfl) (he : starEach [e] X.env = (false, eval e X.env) :: starEach [] X.env := by rfl) (hpl : (backTo pos (starEach [] X.env)).any (·.1) = false := by rfl) :
    Ev X B Γ W (.Call (.Name "all" p) [e] [] pos) (tyB (xs.all g)) :=
  Ev.bi (cr_all hc) hm (by decide +kernel) (.cons h .nil he) (fun vs C H Q E al k => by
    obtain ⟨v, rfl, r⟩ := als1 al
    obtain ⟨q, vs, rfl, _, hp, al⟩ := getL E r
    have := als_V (fun x => V.bl (g x)) al
    subst this
    refine ⟨q, xs.map g, rfl, SqL.of (by rw [hp, List.map_map]; rfl), k _ C H (Same.refl _) E ?_⟩
    show V.bl _ = V.bl _
    rw [List.all_map]; rfl) hg (by decide) (by decide) he hpl
theorem strsL {xs : List α} {g : α → Str} {C H : Hp} {v : V} (E : EntE B C W H) (h : (tySeq (xs.map fun x => tyS (g x))).r v C) : ∃ p, v = .ref p ∧ (H p = some (.lst ((xs.map g).map V.str)) ∨ H p = some (.tup ((xs.map g).map V.str))) := by
  rcases h with h | h
  · obtain ⟨p, vs, rfl, _, hp, al⟩ := getL E h
    have := als_V (fun x => V.str (g x)) al
    subst this
    exact ⟨p, rfl, .inl (by rw [hp, List.map_map]; rfl)⟩
  · obtain ⟨p, vs, rfl, _, hp, al⟩ := getT E h
    have := als_V (fun x => V.str (g x)) al
    subst this
    exact ⟨p, rfl, .inr (by rw [hp, List.map_map]; rfl)⟩
theorem strs_als {C : Hp} : ∀ ks : List Str, Als (ks.map tyS) (ks.map V.str) C
  | [] => .nil
  | _ :: ks => .cons rfl (strs_als ks)
theorem sortS {xs : List α} {g : α → Str} (hm : X.mg "sorted" = none) (h : Ev X B Γ W e (tySeq (xs.map fun x => tyS (g x)))) (hl : xs.length < 64) (hg : Gl X "sorted" := by rfl) (he : starEach [e] X.env = (false, eval e X.env) :: starEach [] X.env := by rfl) (hpl : (backTo pos (starEach [] X.env)).any (·.1) = false := by rfl) :
    Ev X B Γ W (.Call (.Name "sorted" p) [e] [] pos) (tyLst ((srt (xs.map g)).map tyS)) :=
  Ev.bi MR.cr_sortT hm boot_sorted (.cons h .nil he) (fun vs C H Q E al k => by
    obtain ⟨v, rfl, r⟩ := als1 al
    obtain ⟨q, rfl, hp⟩ := strsL E r
    refine ⟨q, xs.map g, rfl, hp.imp SqL.of SqT.of, by rw [List.length_map]; exact hl, fun ys p' hy hs hp' => ?_⟩
    rw [srt_eq hy hs]
    exact newObj (K := cLst ((srt (xs.map g)).map tyS)) E k ⟨_, rfl, strs_als _⟩ p' hp') hg (by decide) (by decide) he hpl
theorem sortD (hc : X.calm = true) (hm : X.mg "sorted" = none) (h : Lv X B Γ W e (cD fs)) (hl : fs.length < 64) (hg : Gl X "sorted" := by rfl) (he : starEach [e] X.env = (false, eval e X.env) :: starEach [] X.env := by rfl) (hpl : (backTo pos (starEach [] X.env)).any (·.1) = false := by rfl) :
    Ev X B Γ W (.Call (.Name "sorted" p) [e] [] pos) (tyLst ((srt (fs.map (·.1))).map tyS)) :=
  Ev.biL (call_sortedD hc) hm boot_sorted h (fun q o C H Q E h1 ⟨ks, eo, al⟩ k => by
    subst eo
    refine ⟨q, ks, fs.map (·.1), rfl, at_dK h1, kvs_keys al, by rw [List.length_map]; exact hl, fun ys p' hy hs hp' => ?_⟩
    rw [srt_eq hy hs]
    exact newObj (K := cLst ((srt (fs.map (·.1))).map tyS)) E k ⟨_, rfl, strs_als _⟩ p' hp') hg (by decide) (by decide) he hpl
theorem listD (hc : X.calm = true) (hm : X.mg "list" = none) (h : Lv X B Γ W e (cD fs)) (hg : Gl X "list" := by rfl) (he : starEach [e] X.env = (false, eval e X.env) :: starEach [] X.env := by rfl) (hpl : (backTo pos (starEach [] X.env)).any (·.1) = false := by rfl) :
    Ev X B Γ W (.Call (.Name "list" p) [e] [] pos) (tyLst (fs.map fun q => tyS q.1)) :=
  Ev.btL (call_listD hc) hm boot_list h (fun q o C H Q E h1 ⟨ks, eo, al⟩ k => by
    subst eo
    refine ⟨q, ks, rfl, at_dK h1, fun p' hp' => ?_⟩
    have e1 : ks.map (fun kv => kV kv.1) = (fs.map (·.1)).map V.str := by
      have := congrArg (List.map kV) (kvs_keys al)
      rw [List.map_map, List.map_map] at this
      exact this
    have e2 : (fs.map fun q => tyS q.1) = (fs.map (·.1)).map tyS := by rw [List.map_map]; rfl
    rw [e1]
    refine newObj (K := cLst (fs.map fun q => tyS q.1)) E k ⟨_, rfl, ?_⟩ p' hp'
    rw [e2]
    exact strs_als _) hg (by decide) (by decide) he hpl
theorem listL (hm : X.mg "list" = none) (h : Lv X B Γ W e (cLst Ts)) (hg : Gl X "list" := by rfl) (he : starEach [e] X.env = (false, eval e X.env) :: starEach [] X.env := by rfl) (hpl : (backTo pos (starEach [] X.env)).any (·.1) = false := by rfl) :
    Ev X B Γ W (.Call (.Name "list" p) [e] [] pos) (tyLst Ts) :=
  Ev.btL call_list_of hm boot_list h (fun q o C H Q E h1 ⟨vs, eo, al⟩ k => by
    subst eo
    exact ⟨q, vs, rfl, .inl (SqL.of (at_lst h1)), newObj (K := cLst Ts) E k ⟨vs, rfl, al⟩⟩) hg (by decide) (by decide) he hpl
theorem listT (hm : X.mg "list" = none) (h : Lv X B Γ W e (cTup Ts)) (hg : Gl X "list" := by rfl) (he : starEach [e] X.env = (false, eval e X.env) :: starEach [] X.env := by rfl) (hpl : (backTo pos (starEach [] X.env)).any (·.1) = false := by rfl) :
    Ev X B Γ W (.Call (.Name "list" p) [e] [] pos) (tyLst Ts) :=
  Ev.btL call_list_of hm boot_list h (fun q o C H Q E h1 ⟨vs, eo, al⟩ k => by
    subst eo
    exact ⟨q, vs, rfl, .inr (SqT.of (at_tup h1)), newObj (K := cLst Ts) E k ⟨vs, rfl, al⟩⟩) hg (by decide) (by decide) he hpl
theorem listS (hm : X.mg "list" = none) (h : Ev X B Γ W e (tySeq Ts)) (hg : Gl X "list" := by rfl) (he : starEach [e] X.env = (false, eval e X.env) :: starEach [] X.env := by rfl) (hpl : (backTo pos (starEach [] X.env)).any (·.1) = false := by rfl) :
    Ev X B Γ W (.Call (.Name "list" p) [e] [] pos) (tyLst Ts) :=
  Ev.bt call_list_of hm boot_list (.cons h .nil he) (fun vs C H Q E al k => by
    obtain ⟨v, rfl, r⟩ := als1 al
    rcases r with r | r
    · obtain ⟨q, vs, rfl, _, hp, al⟩ := getL E r
      exact ⟨q, vs, rfl, .inl (SqL.of hp), newObj (K := cLst Ts) E k ⟨vs, rfl, al⟩⟩
    · obtain ⟨q, vs, rfl, _, hp, al⟩ := getT E r
      exact ⟨q, vs, rfl, .inr (SqT.of hp), newObj (K := cLst Ts) E k ⟨vs, rfl, al⟩⟩) hg (by decide) (by decide) he hpl
theorem tupL (hm : X.mg "tuple" = none) (h : Lv X B Γ W e (cLst Ts)) (hg : Gl X "tuple" := by rfl) (he : starEach [e] X.env = (false, eval e X.env) :: starEach [] X.env := by rfl) (hpl : (backTo pos (starEach [] X.env)).any (·.1) = false := by rfl) :
    Ev X B Γ W (.Call (.Name "tuple" p) [e] [] pos) (tyTup Ts) :=
  Ev.btL call_tuple_of hm boot_tuple h (fun q o C H Q E h1 ⟨vs, eo, al⟩ k => by
    subst eo
    exact ⟨q, vs, rfl, .inl ⟨SqL.of (at_lst h1), newObj (K := cTup Ts) E k ⟨vs, rfl, al⟩⟩⟩) hg (by decide) (by decide) he hpl
theorem setTx {xs : List α} {g : α → Str} (hc : X.calm = true) (hm : X.mg "set" = none) (h : Ev X B Γ W e (tyLst (xs.map fun x => tyS (g x)))) (hl : xs.length < 500) (hg : Gl X "set" := by rfl) (he : starEach [e] X.env = (false, eval e X.env) :: starEach [] X.env := by rfl) (hpl : (backTo pos (starEach [] X.env)).any (·.1) = false := by rfl) :
    Ev X B Γ W (.Call (.Name "set" p) [e] [] pos) (tySet X.w (xs.map g)) :=
  Ev.bt (MR.cr_setTx hc) hm boot_set (.cons h .nil he) (fun vs C H Q E al k => by
    obtain ⟨v, rfl, r⟩ := als1 al
    obtain ⟨q, rfl, hp⟩ := strsL E (.inl r)
    rcases hp with hp | hp
    · refine ⟨q, xs.map g, rfl, SqL.of hp, by rw [List.length_map]; exact hl, fun p' hp' => ?_⟩
      obtain ⟨s, E'⟩ := E.alloc (o := MR.TSetO X.w p' (· ∈ xs.map g)) hp'
      exact k _ _ _ s E' ⟨p', rfl, upd_same⟩
    · obtain ⟨p2, vs, e2, _, hp2, _⟩ := getL E r
      cases e2
      rw [hp] at hp2; cases hp2) hg (by decide) (by decide) he hpl
theorem sortSet {xs : List Str} (hc : X.calm = true) (hm : X.mg "sorted" = none) (h : Ev X B Γ W e (tySet X.w xs)) (hl : xs.length < 64) (hg : Gl X "sorted" := by rfl) (he : starEach [e] X.env = (false, eval e X.env) :: starEach [] X.env := by rfl) (hpl : (backTo pos (starEach [] X.env)).any (·.1) = false := by rfl) :
    Ev X B Γ W (.Call (.Name "sorted" p) [e] [] pos) (tyLst ((srt (dst xs)).map tyS)) :=
  Ev.bi (MR.cr_sortSet hc) hm boot_sorted (.cons h .nil he) (fun vs C H Q E al k => by
    obtain ⟨v, rfl, r⟩ := als1 al
    obtain ⟨q, rfl, hq⟩ := r
    have hH : H q = some (MR.TSetO X.w q (· ∈ xs)) := by
      rcases E.ch q _ hq with h | ⟨_, _, e, _⟩
      · exact h
      · cases e
    refine ⟨q, _, rfl, hH, ⟨xs, hl, fun y h => h⟩, fun ys p' nd hy hs hp' => ?_⟩
    rw [srt_set nd hy hs]
    exact newObj (K := cLst ((srt (dst xs)).map tyS)) E k ⟨_, rfl, strs_als _⟩ p' hp') hg (by decide) (by decide) he hpl
end
/-! isinstance -/
theorem isT {T : String} {t : String} {bb : Bool} (hm : X.mg "isinstance" = none) (h : Ev X B Γ W a R) (ht : ∀ v C H, EntE B C W H → R.r v C → TyOf X.K H v (.type t)) (h2 : Ev X B Γ W b (tyV (.ty T))) (hk : kitB t T = some bb) (hg : Gl X "isinstance" := by rfl)
    (he : starEach [a, b] X.env = (false, eval a X.env) :: starEach [b] X.env := by rfl) (he2 : starEach [b] X.env = (false, eval b X.env) :: starEach [] X.env := by rfl) (hpl : (backTo pos (starEach [b] X.env)).any (·.1) = false := by rfl) :
    Ev X B Γ W (.Call (.Name "isinstance" p) [a, b] [] pos) (tyB bb) :=
  Ev.bi call_isi hm boot_isinstance (.cons h (.cons h2 .nil he2) he) (fun vs C H Q E al k => by
    obtain ⟨v, w, rfl, r, r2⟩ := als2 al
    cases r2
    exact ⟨v, _, _, _, bb, rfl, .ty T, .base (ht v C H E r), kit_ty hk, k _ C H (Same.refl _) E rfl⟩) hg (by decide) (by decide) he hpl
theorem isC (hm : X.mg "isinstance" = none) (h : Ev X B Γ W a (tyO Cl fs)) (h2 : Ev X B Γ W b (tyP Cl)) (ic : C8.InsC X.K Cl) (hg : Gl X "isinstance" := by rfl)
    (he : starEach [a, b] X.env = (false, eval a X.env) :: starEach [b] X.env := by rfl) (he2 : starEach [b] X.env = (false, eval b X.env) :: starEach [] X.env := by rfl) (hpl : (backTo pos (starEach [b] X.env)).any (·.1) = false := by rfl) :
    Ev X B Γ W (.Call (.Name "isinstance" p) [a, b] [] pos) (tyB true) :=
  Ev.bi (C8.call_isC ic) hm boot_isinstance (.cons h (.cons h2 .nil he2) he) (fun vs C H Q E al k => by
    obtain ⟨v, w, rfl, r, r2⟩ := als2 al
    cases r2
    obtain ⟨q, dx, ws, rfl, _, hp, _⟩ := getO E r
    exact ⟨q, dx, ws, rfl, hp, k _ C H (Same.refl _) E rfl⟩) hg (by decide) (by decide) he hpl
theorem ty_int {C H : Hp} {v : V} (E : EntE B C W H) (h : (tyI i).r v C) : TyOf X.K H v (.type "int") := by cases h; exact .int i
theorem ty_str {C H : Hp} {v : V} (E : EntE B C W H) (h : (tyS x).r v C) : TyOf X.K H v (.type "str") := by cases h; exact .str x
theorem ty_tup {C H : Hp} {v : V} (E : EntE B C W H) (h : (tyTup Ts).r v C) : TyOf X.K H v (.type "tuple") := by
  obtain ⟨q, vs, rfl, _, hp, _⟩ := getT E h
  exact .tup hp
/-! values of dicts, reversed, bit_length -/
theorem sumVals {kf : List (Str × Int)} {apos mpos : Pos} (hc : X.calm = true) (hm : X.mg "sum" = none) (h : Lv X B Γ W o (cD (vmap tyI kf))) (hg : Gl X "sum" := by rfl) (hbase : attributeBase o "values" X.env (eval o X.env) = eval o X.env := by rfl) (hline : (apos.endLine == mpos.line) = true := by rfl)
    (hse : starEach [Expr.Call (.Attribute o "values" apos) [] [] mpos] X.env = [(false, eval (Expr.Call (.Attribute o "values" apos) [] [] mpos) X.env)] := by rfl) : Ev X B Γ W (.Call (.Name "sum" p) [.Call (.Attribute o "values" apos) [] [] mpos] [] pos) (tyI (kf.map (·.2)).sum) := fun σ C H S Q k =>
  toE (MR.pe_sumVals hc hg hm pe_s hbase hline hse) (h σ C H S _ fun q C1 H1 s1 E1 g => by
    obtain ⟨o, h1, ks, rfl, al⟩ := g C1 H1 (Same.refl _) E1
    refine ⟨q, ks, kf.map (Prod.snd), rfl, at_dK h1, ?_, k _ C1 H1 s1 E1 rfl⟩
    have := kvs_vals al
    have e : (vmap tyI kf).map (·.2) = kf.map fun z => tyI z.2 := by unfold vmap; rw [List.map_map]; rfl
    rw [e] at this
    rw [als_V (fun z : Str × Int => V.int z.2) this, List.map_map]; rfl)
theorem listVals {apos mpos : Pos} (hc : X.calm = true) (hm : X.mg "list" = none) (h : Lv X B Γ W o (cD fs)) (hg : Gl X "list" := by rfl) (hbase : attributeBase o "values" X.env (eval o X.env) = eval o X.env := by rfl) (hline : (apos.endLine == mpos.line) = true := by rfl)
    (hs : starEach [.Call (.Attribute o "values" apos) [] [] mpos] X.env = (false, eval (.Call (.Attribute o "values" apos) [] [] mpos) X.env) :: starEach [] X.env := by rfl) : Ev X B Γ W (.Call (.Name "list" p) [.Call (.Attribute o "values" apos) [] [] mpos] [] pos) (tyLst (fs.map (·.2))) := fun σ C H S Q k =>
  toE (MR.pe_listVals hc hg hm pe_s hbase hline hs) (h σ C H S _ fun q C1 H1 s1 E1 g => by
    obtain ⟨o, h1, ks, rfl, al⟩ := g C1 H1 (Same.refl _) E1
    exact ⟨q, ks, rfl, at_dK h1, newObj (K := cLst (fs.map (·.2))) E1 (kup k s1) ⟨_, rfl, kvs_vals al⟩⟩)
theorem listRev {p2 pos2 : Pos} (hc : X.calm = true) (hm : X.mg "list" = none) (hm2 : X.mg "reversed" = none) (h : Ev X B Γ W e (tyLst Ts)) (hg : Gl X "list" := by rfl) (hg2 : Gl X "reversed" := by rfl) (hs : starEach [e] X.env = (false, eval e X.env) :: starEach [] X.env := by rfl)
    (hs2 : starEach [.Call (.Name "reversed" p2) [e] [] pos2] X.env = (false, eval (.Call (.Name "reversed" p2) [e] [] pos2) X.env) :: starEach [] X.env := by rfl) : Ev X B Γ W (.Call (.Name "list" p) [.Call (.Name "reversed" p2) [e] [] pos2] [] pos) (tyLst Ts.reverse) := fun σ C H S Q k =>
  toE (MR.pe_listRev hc hg hm hg2 hm2 pe_s hs hs2) (h σ C H S _ fun v C1 H1 s1 E1 r => by
    obtain ⟨q, vs, rfl, _, hp, al⟩ := getL E1 r
    exact ⟨q, vs, rfl, SqL.of hp, newObj (K := cLst Ts.reverse) E1 (kup k s1) ⟨_, rfl, als_rev al⟩⟩)
theorem bitsE (h : Ev X B Γ W o (tyI i)) (hbase : attributeBase o "bit_length" X.env (eval o X.env) = eval o X.env := by rfl) (hline : (apos.endLine == pos.line) = true := by rfl) : Ev X B Γ W (.Call (.Attribute o "bit_length" apos) [] [] pos) (tyI (Builtin.Int.intBits i : Nat)) := fun σ C H S Q k =>
  toE (pe_bits pe_s hbase hline) (h σ C H S _ fun v C1 H1 s1 E1 r => ⟨i, r, k _ C1 H1 s1 E1 rfl⟩)
/-! in, not in -/
theorem inV_map {g : α → V} {v : V} (xs : List α) : inV v (xs.map g) = xs.any fun x => eqV (g x) v := by unfold inV; rw [List.any_map]; rfl
theorem inS {xs : List α} {g : α → Str} {z : Str} : inV (.str z) (xs.map fun x => V.str (g x)) = decide (z ∈ xs.map g) := by
  rw [inV_map, Bool.eq_iff_iff, List.any_eq_true, decide_eq_true_iff, List.mem_map]
  constructor
  · rintro ⟨x, hx, h⟩
    have h' : (g x == z) = true := h
    exact ⟨x, hx, by simpa using h'⟩
  · rintro ⟨x, hx, rfl⟩
    exact ⟨x, hx, by show (g x == g x) = true; simp⟩
theorem inI {xs : List α} {g : α → Int} {z : Int} : inV (.int z) (xs.map fun x => V.int (g x)) = decide (z ∈ xs.map g) := by
  rw [inV_map, Bool.eq_iff_iff, List.any_eq_true, decide_eq_true_iff, List.mem_map]
  constructor
  · rintro ⟨x, hx, h⟩
    have h' : (g x == z) = true := h
    exact ⟨x, hx, by simpa using h'⟩
  · rintro ⟨x, hx, rfl⟩
    exact ⟨x, hx, by show (g x == g x) = true; simp⟩
/-- a container of scalars: its items -/
def Scal (K : Con) (X : Cx) (vs : List V) : Prop := ∀ H p o C, At1 H p o → K.r o C → SqL X.K H p vs ∨ SqT X.K H p vs
theorem scalL {xs : List α} (g : α → V) : Scal (cLst (xs.map fun x => tyV (g x))) X (xs.map g) := fun H p o C h ⟨vs, eo, al⟩ => by subst eo; rw [← als_V g al]; exact .inl (SqL.of (at_lst h))
theorem scalT {xs : List α} (g : α → V) : Scal (cTup (xs.map fun x => tyV (g x))) X (xs.map g) := fun H p o C h ⟨vs, eo, al⟩ => by subst eo; rw [← als_V g al]; exact .inr (SqT.of (at_tup h))
theorem cmpIn {v : V} {vs : List V} (ha : Ev X B Γ W a (tyV v)) (hb : Lv X B Γ W b K) (sc : Scal K X vs) (f1 : L2.flatV v = true) (f2 : vs.all L2.flatV = true) (hm : behindInMarks .In b = false := by with_unfolding_all rfl) : Ev X B Γ W (.Compare a [.In] [b] pos) (tyB (inV v vs)) := fun σ C H S Q k =>
  toE (pe_cmpR op_in_seq pe_s pe_s hm) (ha σ C H S _ fun x C1 H1 s1 E1 r1 => hb σ C1 H1 (S.go s1 E1) _ fun p C2 H2 s2 E2 g => by
    obtain ⟨o, h1, h2⟩ := g C2 H2 (Same.refl _) E2
    cases r1
    exact ⟨p, vs, rfl, sc H2 p o C2 h1 h2, f1, f2, k _ C2 H2 (s1.trans s2) E2 rfl⟩)
theorem tstIn {v : V} {vs : List V} (ha : Ev X B Γ W a (tyV v)) (hb : Lv X B Γ W b K) (sc : Scal K X vs) (f1 : L2.flatV v = true) (f2 : vs.all L2.flatV = true) (hm : behindInMarks .In b = false := by with_unfolding_all rfl) : Tv X B Γ W (.Compare a [.In] [b] pos) (· = inV v vs) := fun σ C H S Q k =>
  toT (pt_cmpR op_in_seq pe_s pe_s hm) (ha σ C H S _ fun x C1 H1 s1 E1 r1 => hb σ C1 H1 (S.go s1 E1) _ fun p C2 H2 s2 E2 g => by
    obtain ⟨o, h1, h2⟩ := g C2 H2 (Same.refl _) E2
    cases r1
    exact ⟨p, vs, rfl, sc H2 p o C2 h1 h2, f1, f2, _, rfl, k _ C2 H2 (s1.trans s2) E2 rfl⟩)
theorem tstNotIn {v : V} {vs : List V} (ha : Ev X B Γ W a (tyV v)) (hb : Lv X B Γ W b K) (sc : Scal K X vs) (f1 : L2.flatV v = true) (f2 : vs.all L2.flatV = true) (hm : behindInMarks .NotIn b = false := by with_unfolding_all rfl) : Tv X B Γ W (.Compare a [.NotIn] [b] pos) (· = !inV v vs) := fun σ C H S Q k =>
  toT (pt_cmpR op_notIn_seq pe_s pe_s hm) (ha σ C H S _ fun x C1 H1 s1 E1 r1 => hb σ C1 H1 (S.go s1 E1) _ fun p C2 H2 s2 E2 g => by
    obtain ⟨o, h1, h2⟩ := g C2 H2 (Same.refl _) E2
    cases r1
    exact ⟨p, vs, rfl, sc H2 p o C2 h1 h2, f1, f2, _, rfl, k _ C2 H2 (s1.trans s2) E2 rfl⟩)
theorem flatsS {xs : List α} {g : α → Str} : (xs.map fun x => V.str (g x)).all L2.flatV = true := by rw [List.all_map]; exact List.all_eq_true.mpr fun _ _ => rfl
theorem flatsI {xs : List α} {g : α → Int} : (xs.map fun x => V.int (g x)).all L2.flatV = true := by rw [List.all_map]; exact List.all_eq_true.mpr fun _ _ => rfl
section
variable {xs : List α} {z : Str} {y : Int}
theorem EinS {g : α → Str} (ha : Ev X B Γ W a (tyS z)) (hb : Lv X B Γ W b K) (sc : Scal K X (xs.map fun x => V.str (g x))) (hm : behindInMarks .In b = false := by with_unfolding_all rfl) : Ev X B Γ W (.Compare a [.In] [b] pos) (tyB (decide (z ∈ xs.map g))) := by
  have := cmpIn ha hb sc rfl flatsS (pos := pos) hm
  rwa [inS] at this
theorem EinI {g : α → Int} (ha : Ev X B Γ W a (tyI y)) (hb : Lv X B Γ W b K) (sc : Scal K X (xs.map fun x => V.int (g x))) (hm : behindInMarks .In b = false := by with_unfolding_all rfl) : Ev X B Γ W (.Compare a [.In] [b] pos) (tyB (decide (y ∈ xs.map g))) := by
  have := cmpIn ha hb sc rfl flatsI (pos := pos) hm
  rwa [inI] at this
theorem TinS {g : α → Str} (ha : Ev X B Γ W a (tyS z)) (hb : Lv X B Γ W b K) (sc : Scal K X (xs.map fun x => V.str (g x))) (hm : behindInMarks .In b = false := by with_unfolding_all rfl) : Tv X B Γ W (.Compare a [.In] [b] pos) (· = decide (z ∈ xs.map g)) := by
  have := tstIn ha hb sc rfl flatsS (pos := pos) hm
  rwa [inS] at this
theorem TnotS {g : α → Str} (ha : Ev X B Γ W a (tyS z)) (hb : Lv X B Γ W b K) (sc : Scal K X (xs.map fun x => V.str (g x))) (hm : behindInMarks .NotIn b = false := by with_unfolding_all rfl) : Tv X B Γ W (.Compare a [.NotIn] [b] pos) (· = !decide (z ∈ xs.map g)) := by
  have := tstNotIn ha hb sc rfl flatsS (pos := pos) hm
  rwa [inS] at this
theorem TinI {g : α → Int} (ha : Ev X B Γ W a (tyI y)) (hb : Lv X B Γ W b K) (sc : Scal K X (xs.map fun x => V.int (g x))) (hm : behindInMarks .In b = false := by with_unfolding_all rfl) : Tv X B Γ W (.Compare a [.In] [b] pos) (· = decide (y ∈ xs.map g)) := by
  have := tstIn ha hb sc rfl flatsI (pos := pos) hm
  rwa [inI] at this
end
end
end MJ
set_option maxHeartbeats 4000000
/-! Short words of my own: defs by names, fields, heaps with an object left out. -/
namespace MT
open PySem PySem.Spec L2
open PyProof.Rows hiding St
section
variable {P : Program} {w : World} {K : PySem.W.Frag} {mg : Str → Option Value} {base : Heap}
abbrev BodyOk (P : Program) (w : World) (K : PySem.W.Frag) (mg : Str → Option Value) (base : Heap) (N : List Str) (qual : Str) (st : Stmt) (f : Addr) (k : Nat) (sp : Sp) : Prop :=
  ∀ (cdv : Value) (A : Around) (outer : List Env) (s : Shared) (H : Hp) (vs : List V) (Q : VK) (E : XK), Room k (A.deeper (envOfC qual (defScope st) s.heap.objs.size f cdv)) → sp vs H Q E →
      ∃ t, PSs (cxOf CX0 P w K mg base N qual (defScope st) f cdv A outer s H E).nox (defBody st) t ∧ t { nx := fun _ H' => Q .non H', rt := Q } (L2.start N vs) H
abbrev BindOk (x qual : Str) (st : Stmt) (ps : List Str) : Prop :=
  ∀ (kV doc pm : Value) (an : Option Addr) (cdv ct : Value) (us : List Value), us.length = ps.length → bindArgs (PySem.W.fnOf x qual (defArgs st) (defBody st) (defScope st) .none kV doc pm an cdv ct) ⟨us, []⟩ = pure (ps.zip us)
theorem fnOk {x qual : Str} {st : Stmt} {f : Addr} {fd : FuncData} {N ps : List Str} {k : Nat} {sp : Sp} (F : FunD K x qual (defArgs st) (defBody st) (defScope st) [] [] f fd) (S : FnScope N ps (defScope st)) (len : ∀ vs H Q E, sp vs H Q E → vs.length = ps.length)
    (hb : BodyOk P w K mg base N qual st f k sp) : FnOk P w K mg base CX0 (k + 1) f fd ps sp :=
  F.ok S len fun cdv A outer s H vs Q E hr h => let ⟨t, h1, h2⟩ := hb cdv A outer s H vs Q E hr h; ⟨t, PSs.nox h1, h2⟩
theorem mkCal {x : Str} {st : Stmt} {N ps : List Str} {k : Nat} {sp : Sp} (g : mg x = some (.ref (He.ga K x))) (F : ∃ fd, FunD K x x (defArgs st) (defBody st) (defScope st) [] [] (He.fAd K (x, none)) fd) (S : FnScope N ps (defScope st))
    (bd : BindOk x x st ps) (len : ∀ vs H Q E, sp vs H Q E → vs.length = ps.length) (hb : BodyOk P w K mg base N x st (He.ga K x) k sp) : C8.Cal P w K mg base (k + 1) x sp [] := by
  obtain ⟨fd, F⟩ := F
  exact ⟨He.ga K x, fd, ps, [], fnOk F S len hb, g, F.kp, F.bindsN bd, .nil⟩
theorem mkMet {m qual x : Str} {st : Stmt} {N ps : List Str} {k : Nat} {sp : Sp} (c : Cls K (He.ga K x)) (me : Meth K (He.ga K x) m (He.ma K (He.ga K x) m)) (F : ∃ fd, FunD K m qual (defArgs st) (defBody st) (defScope st) [] [] (He.fAd K (x, some m)) fd) (S : FnScope N ps (defScope st))
    (bd : BindOk m qual st ps) (len : ∀ vs H Q E, sp vs H Q E → vs.length = ps.length) (hb : BodyOk P w K mg base N qual st (He.ma K (He.ga K x) m) k sp) : C8.Met P w K mg base (k + 1) (He.ga K x) m sp [] := by
  obtain ⟨fd, F⟩ := F
  exact ⟨He.ma K (He.ga K x) m, fd, ps, [], c, me, fnOk F S len hb, F.bindsN bd, .nil⟩
theorem mkMak {qual x : Str} {st : Stmt} {N ps : List Str} {k : Nat} {sp : Sp} (M : Mk K (He.ga K x) (He.ma K (He.ga K x) "__init__")) (g : mg x = some (.ref (He.ga K x))) (F : ∃ fd, FunD K "__init__" qual (defArgs st) (defBody st) (defScope st) [] [] (He.fAd K (x, some "__init__")) fd) (S : FnScope N ps (defScope st))
    (bd : BindOk "__init__" qual st ps) (len : ∀ vs H Q E, sp vs H Q E → vs.length = ps.length) (hb : BodyOk P w K mg base N qual st (He.ma K (He.ga K x) "__init__") k sp) : C8.Mak P w K mg base (k + 1) x (He.ga K x) sp [] := by
  obtain ⟨fd, F⟩ := F
  exact ⟨He.ma K (He.ga K x) "__init__", fd, ps, [], M, fnOk F S len hb, g, F.bindsN bd, .nil⟩
end
end MT
set_option maxHeartbeats 4000000
/-! Typed rules: nested targets, enumerate over mapped lists, lists of keys. -/
namespace MJ
open PySem PySem.Spec L2
open PyProof.Rows hiding St
def GvL (X : Cx) (tgs : List Expr) (As : List Ty) (is : List Nat) (Ts : List Ty) : Prop := is.length = Ts.length ∧ ∃ g, PGs X tgs g ∧ ∀ (B : Bs) (W : Wl) (σ : L2.St) (C H : Hp) (vs : List V) (Q : L2.St → Hp → Prop), EntE B C W H → Als As vs C → (∀ ws, Als Ts ws C → Q (setS σ is ws) H) → g vs σ H Q
theorem setS_app : ∀ {is js : List Nat} {vs ws : List V} {σ : L2.St}, is.length = vs.length → setS σ (is ++ js) (vs ++ ws) = setS (setS σ is vs) js ws
  | [], js, [], ws, σ, _ => rfl
  | [], js, _ :: _, ws, σ, h => by simp at h
  | _ :: _, js, [], ws, σ, h => by simp at h
  | i :: is, js, v :: vs, ws, σ, h => setS_app (is := is) (by simpa using h)
section
variable {X : Cx} {B : Bs} {Γ Γ' : Gm} {W W' : Wl} {a b c e o tg iter value : Expr} {es tgs ifs : List Expr} {pos pos' apos p spos : Pos} {R Ra Rb T : Ty} {Ts Us As Ts1 Ts2 : List Ty} {is1 is2 : List Nat} {K : Con} {x f m : Str}
theorem gL0 : GvL X [] [] [] [] := ⟨rfl, _, pgs_nil, fun B W σ C H vs Q E al k => by cases al; exact ⟨rfl, k [] .nil⟩⟩
theorem gLc {A : Ty} (h1 : Gv X tg A is1 Ts1) (h2 : GvL X tgs As is2 Ts2) (hl : is1.length = Ts1.length := by rfl) (hs : (assignEach (tg :: tgs) X.env).map (·.2) = assign tg X.env :: (assignEach tgs X.env).map (·.2) := by rfl) : GvL X (tg :: tgs) (A :: As) (is1 ++ is2) (Ts1 ++ Ts2) := by
  obtain ⟨hl2, g2, p2, q2⟩ := h2
  obtain ⟨g1, p1, q1⟩ := h1
  refine ⟨by simp [hl, hl2], _, pgs_cons p1 p2 hs, fun B W σ C H vs Q E al k => ?_⟩
  cases al with
  | cons r t =>
    refine ⟨_, _, rfl, q1 B W σ C H _ _ E r fun ws a1 => q2 B W _ C H _ Q E t fun zs a2 => ?_⟩
    rw [← setS_app (by rw [hl]; exact Paired.length a1)]
    exact k _ (Paired.app a1 a2)
theorem gLt {is : List Nat} {k : Nat} (hc : X.calm = true) (h : GvL X es As is Ts) (hn : (assignEach es X.env).length = As.length := by rfl) (hst : (assignEach es X.env).findIdx? (·.1) = none := by rfl) : Gv X (.Tuple es k pos) (tyTup As) is Ts := by
  obtain ⟨_, g, hg, q⟩ := h
  refine ⟨_, pg_tup hc hg hn hst, fun B W σ C H v Q E r k => ?_⟩
  obtain ⟨p, vs, rfl, _, hp, al⟩ := getT E r
  exact ⟨p, vs, rfl, SqT.of hp, (Paired.length al).symm, q B W σ C H vs Q E al k⟩
theorem enT_map {α : Type} (R : α → Ty) (xs : List α) : enT (xs.map R) = xs.zipIdx.map fun q => tyTup [tyI ((q.2 : Nat) : Int), R q.1] := by
  unfold enT
  refine List.ext_getElem? fun i => ?_
  rw [List.getElem?_map, List.getElem?_map, List.getElem?_zipIdx, List.getElem?_zipIdx, List.getElem?_map]
  cases xs[i]? <;> rfl
theorem zip_at {α : Type} {xs : List α} {n : Nat} {q : α × Nat} (h : xs.zipIdx[n]? = some q) : xs[n]? = some q.1 ∧ q.2 = n := by
  rw [List.getElem?_zipIdx] at h
  cases z : xs[n]? with
  | none => rw [z] at h; cases h
  | some x => rw [z] at h; simp at h; subst h; exact ⟨rfl, rfl⟩
theorem zip_mem {α : Type} {xs : List α} {q : α × Nat} (h : q ∈ xs.zipIdx) : xs[q.2]? = some q.1 := by
  obtain ⟨n, hn⟩ := List.getElem?_of_mem h
  obtain ⟨a, b⟩ := zip_at hn
  rw [b]; exact a
theorem Iv.enumM {α : Type} {xs : List α} {Rx : α → Ty} {elts : List Expr} {kk : Nat} {tpos : Pos} (hm : X.mg "enumerate" = none) (h : Ev X B Γ W e (tyLst (xs.map Rx))) (hg : Gl X "enumerate" := by rfl) (hs : starEach [e] X.env = [(false, eval e X.env)] := by rfl) :
    Iv X B Γ W (.Tuple elts kk tpos) (.Call (.Name "enumerate" p) [e] [] pos) (xs.zipIdx.map fun q => tyTup [tyI ((q.2 : Nat) : Int), Rx q.1]) := enT_map Rx xs ▸ Iv.enum hm h hg hs
theorem Iv.enumTM {α : Type} {xs : List α} {Rx : α → Ty} {elts : List Expr} {kk : Nat} {tpos : Pos} (hm : X.mg "enumerate" = none) (h : Ev X B Γ W e (tyTup (xs.map Rx))) (hg : Gl X "enumerate" := by rfl) (hs : starEach [e] X.env = [(false, eval e X.env)] := by rfl) :
    Iv X B Γ W (.Tuple elts kk tpos) (.Call (.Name "enumerate" p) [e] [] pos) (xs.zipIdx.map fun q => tyTup [tyI ((q.2 : Nat) : Int), Rx q.1]) := enT_map Rx xs ▸ Iv.enumT hm h hg hs
end
/-! ### dicts at the level of the mathematics -/
section
variable {α : Type}
theorem dget_none {m : List (Str × α)} {x : Str} : dget m x = none ↔ x ∉ m.map (·.1) := by
  induction m with
  | nil => simp [dget]
  | cons p m ih =>
    rw [dget_cons]
    by_cases h : p.1 = x
    · simp [h]
    · rw [if_neg h, ih]; simp [Ne.symm h, eq_comm]
theorem dget_some_mem {m : List (Str × α)} {x : Str} {a : α} (h : dget m x = some a) : (x, a) ∈ m := by
  induction m with
  | nil => cases h
  | cons p m ih =>
    rw [dget_cons] at h
    by_cases hp : p.1 = x
    · rw [if_pos hp] at h; cases h; subst hp; exact List.mem_cons_self
    · rw [if_neg hp] at h; exact List.mem_cons_of_mem _ (ih h)
theorem dget_mem {m : List (Str × α)} (nd : (m.map (·.1)).Nodup) {x : Str} {a : α} (h : (x, a) ∈ m) : dget m x = some a := by
  induction m with
  | nil => cases h
  | cons p m ih =>
    rw [List.map_cons, List.nodup_cons] at nd
    rw [dget_cons]
    rcases List.mem_cons.mp h with e | h
    · subst e; rw [if_pos rfl]
    · have : p.1 ≠ x := fun z => nd.1 (by rw [z]; exact List.mem_map.mpr ⟨_, h, rfl⟩)
      rw [if_neg this]; exact ih nd.2 h
theorem dput_new {m : List (Str × α)} {x : Str} {a : α} (h : x ∉ m.map (·.1)) : dput m x a = m ++ [(x, a)] := by
  unfold dput
  rw [if_neg]
  intro z
  obtain ⟨p, hp, e⟩ := List.any_eq_true.mp z
  exact h (by rw [← of_decide_eq_true e]; exact List.mem_map.mpr ⟨p, hp, rfl⟩)
theorem dput_keys {m : List (Str × α)} {x : Str} {a : α} : (dput m x a).map (·.1) = if x ∈ m.map (·.1) then m.map (·.1) else m.map (·.1) ++ [x] := by
  by_cases h : x ∈ m.map (·.1)
  · rw [if_pos h]
    unfold dput
    rw [if_pos (by
      obtain ⟨p, hp, e⟩ := List.mem_map.mp h
      exact List.any_eq_true.mpr ⟨p, hp, decide_eq_true e⟩), List.map_map]
    refine List.map_congr_left fun p _ => ?_
    show (if p.1 = x then (p.1, a) else p).1 = p.1
    split <;> rfl
  · rw [if_neg h, dput_new h]; simp
theorem dput_nodup {m : List (Str × α)} {x : Str} {a : α} (nd : (m.map (·.1)).Nodup) : ((dput m x a).map (·.1)).Nodup := by
  rw [dput_keys]
  split
  · exact nd
  · rename_i h
    rw [List.nodup_append]
    exact ⟨nd, by simp, fun a ha b hb z => h (by rw [← (show b = x by simpa using hb), ← z]; exact ha)⟩
theorem dput_get {m : List (Str × α)} {x y : Str} {a : α} : dget (dput m x a) y = if x = y then some a else dget m y := by
  by_cases h : x ∈ m.map (·.1)
  · unfold dput
    rw [if_pos (by
      obtain ⟨p, hp, e⟩ := List.mem_map.mp h
      exact List.any_eq_true.mpr ⟨p, hp, decide_eq_true e⟩)]
    induction m with
    | nil => simp at h
    | cons p m ih =>
      rw [List.map_cons, dget_cons, dget_cons]
      by_cases hp : p.1 = x
      · rw [if_pos hp]
        by_cases hy : p.1 = y
        · simp [hy, ← hp]
        · simp only [hy, if_false]
          have hxy : x ≠ y := fun z => hy (hp.trans z)
          rw [if_neg hxy]
          by_cases hm : x ∈ m.map (·.1)
          · rw [ih hm, if_neg hxy]
          · have : m.map (fun p => if p.1 = x then (p.1, a) else p) = m := by
              conv => rhs; rw [← List.map_id m]
              refine List.map_congr_left fun q hq => ?_
              rw [if_neg (fun z => hm (by rw [← z]; exact List.mem_map.mpr ⟨q, hq, rfl⟩))]; rfl
            rw [this]
      · rw [if_neg hp]
        have hm : x ∈ m.map (·.1) := by
          rcases List.mem_cons.mp h with e | h
          · exact absurd e.symm hp
          · exact h
        by_cases hy : p.1 = y
        · have hxy : x ≠ y := fun z => hp (hy.trans z.symm)
          simp [hy, hxy]
        · simp only [hy, if_false]; exact ih hm
  · rw [dput_new h]
    have go : ∀ m : List (Str × α), x ∉ m.map (·.1) → dget (m ++ [(x, a)]) y = if x = y then some a else dget m y := by
      intro m
      induction m with
      | nil => intro _; show dget [(x, a)] y = _; rw [dget_cons]
      | cons p m ih =>
        intro hn
        rw [List.cons_append, dget_cons, dget_cons]
        have hn1 : ¬ x = p.1 := fun z => hn (by rw [z]; simp)
        by_cases hy : p.1 = y
        · rw [if_pos hy, if_pos hy, if_neg (fun z => hn1 (z.trans hy.symm))]
        · rw [if_neg hy, if_neg hy]; exact ih fun z => hn (by simp at z ⊢; exact .inr z)
    exact go m h
end
theorem srt_congr {l m : List Str} (h : l.Perm m) : srt l = srt m := pw_unique (srt_pw l) (srt_pw m) ((srt_perm l).trans (h.trans (srt_perm m).symm))
theorem srt_dst {l m : List Str} (nd : l.Nodup) (h : ∀ x, x ∈ l ↔ x ∈ m) : srt l = srt (dst m) := srt_congr (nodup_perm nd (dst_nodup m) fun x => (h x).trans dst_mem.symm)
/-- keys that come one after another -/
def kadd (ks : List Str) (x : Str) : List Str := if x ∈ ks then ks else ks ++ [x]
theorem kadd_mem {ks : List Str} {x y : Str} : y ∈ kadd ks x ↔ y ∈ ks ∨ y = x := by
  unfold kadd
  split
  · rename_i h
    exact ⟨.inl, fun z => z.elim id fun e => e ▸ h⟩
  · simp
theorem kadd_nodup {ks : List Str} {x : Str} (nd : ks.Nodup) : (kadd ks x).Nodup := by
  unfold kadd
  split
  · exact nd
  · rename_i h
    rw [List.nodup_append]
    exact ⟨nd, by simp, fun a ha b hb z => h (by rw [← (show b = x by simpa using hb), ← z]; exact ha)⟩
theorem kadd_le {ks : List Str} {x : Str} : (kadd ks x).length ≤ ks.length + 1 := by unfold kadd; split <;> simp
theorem dput_kadd {α : Type} (ks : List Str) (x : Str) (a : α) : dput (ks.map fun k => (k, a)) x a = (kadd ks x).map fun k => (k, a) := by
  have e : (ks.map fun k => (k, a)).map (·.1) = ks := by rw [List.map_map]; exact List.map_id ks
  by_cases h : x ∈ ks
  · unfold kadd dput
    rw [if_pos h, if_pos (List.any_eq_true.mpr ⟨(x, a), List.mem_map.mpr ⟨x, h, rfl⟩, by simp⟩), List.map_map]
    refine List.map_congr_left fun k _ => ?_
    show (if k = x then (k, a) else (k, a)) = _
    split <;> rfl
  · rw [dput_new (by rw [e]; exact h)]
    unfold kadd
    rw [if_neg h]; simp
end MJ
set_option maxHeartbeats 4000000
/-! defs: numbers. -/
namespace MF
open PySem PySem.Spec L2 MT MJ
open PyProof.Rows hiding St
theorem lenP {ι : Type} {pre : ι → Prop} {ar : ι → List Ty} {R : ι → Ty} {n : Nat} (h : ∀ i, (ar i).length = n) : ∀ vs H Q E, spP pre ar R vs H Q E → vs.length = n := fun vs H Q E ⟨i, C, g, hp, En, al, q⟩ => by rw [← h i]; exact (Paired.length al).symm
theorem lenW {ι : Type} {pre : ι → Prop} {Kk Kk' : ι → MJ.Con} {ar : ι → List Ty} {R : ι → Ty} {n : Nat} (h : ∀ i, (ar i).length + 1 = n) : ∀ vs H Q E, spW pre Kk ar Kk' R vs H Q E → vs.length = n := fun vs H Q E ⟨i, C, g, p, ws, hp, En, e, al, q⟩ => by rw [← h i, e, Paired.length al]; rfl
section
variable {P : Program} {w : World} {K : PySem.W.Frag} {mg : Str → Option Value} {base : Heap}
theorem sc_gcd : FnScope ["a", "b"] ["a", "b"] (defScope s_greatest_divisor) := ⟨rfl, rfl, rfl, by decide +kernel, rfl, by decide +kernel, by decide +kernel⟩
theorem gcd_step {a b : Int} (ha : 0 ≤ a) (hb : 0 < b) : Int.gcd b (a % b) = Int.gcd a b := by
  obtain ⟨m, rfl⟩ : ∃ m : Nat, a = m := ⟨a.toNat, by omega⟩
  obtain ⟨n, rfl⟩ : ∃ n : Nat, b = n := ⟨b.toNat, by omega⟩
  show Nat.gcd n (m % n) = Nat.gcd m n
  rw [Nat.gcd_comm, ← Nat.gcd_rec, Nat.gcd_comm]
abbrev sp_gcd : Sp := spP (fun i : Int × Int => 0 ≤ i.1 ∧ 0 ≤ i.2) (fun i => [tyI i.1, tyI i.2]) (fun i => tyI (Int.gcd i.1 i.2 : Nat))
theorem f_gcd (T : Tx K mg) : C8.Cal P w K mg base 1 "greatest_divisor" sp_gcd [] :=
  mkCal T.ggreatest_divisor T.d_greatest_divisor sc_gcd (fun _ _ _ _ _ _ us hl => match us, hl with | [_, _], _ => rfl) (lenP fun _ => rfl) (bodyP fun cdv A outer s H E hr i B D ⟨ha, hb⟩ fin _ =>
    Sj.while_ PassesOwn.never (fun z : Int × Int => 0 ≤ z.1 ∧ 0 ≤ z.2 ∧ Int.gcd z.1 z.2 = Int.gcd i.1 i.2) (fun z => z.2.toNat) (fun z => [some (tyI z.1), some (tyI z.2)]) (fun _ => []) (fun z => decide (0 < z.2)) i ⟨ha, hb, rfl⟩ (Ws.refl _) (Wc.refl _)
      (fun z hz => Tv.gt (Ev.v 1 rfl) Ev.int)
      (fun z ⟨h1, h2, h3⟩ ht => by
        have h4 : 0 < z.2 := of_decide_eq_true ht
        exact ⟨(z.2, z.1 % z.2), ⟨h2, Int.emod_nonneg _ (by omega), (gcd_step h1 h4).trans h3⟩, by have := Int.emod_lt_of_pos z.1 h4; show (z.1 % z.2).toNat < z.2.toNat; omega,
          Sj.par 0 1 rfl sc_gcd.nd (As.cons (Ev.v 1 rfl) (As.cons (Ev.mod (Ev.v 0 rfl) (Ev.v 1 rfl) h4) As.nil)) (Sj.at (Ws.refl _) (Wc.refl _))⟩)
      (fun z ⟨h1, h2, h3⟩ ht => by
        have h4 : z.2 = 0 := by have := of_decide_eq_false ht; omega
        refine Sj.ret (Ev.v 0 rfl) fin (fun v C h => ?_) .n
        rw [show v = _ from h, ← h3, h4]
        show V.int z.1 = V.int (Int.gcd z.1 0 : Nat)
        rw [Int.gcd_zero, Int.natAbs_of_nonneg h1]))
end
end MF
set_option maxHeartbeats 4000000
/-! defs: shares. -/
namespace MF
open PySem PySem.Spec L2 MT MJ
open PyProof.Rows hiding St
theorem Tv.is {X : Cx} {B : Bs} {Γ : Gm} {W : Wl} {e : Expr} {p b : Bool} (h : Tv X B Γ W e (· = p)) (hb : p = b) : Tv X B Γ W e (· = b) := hb ▸ h
theorem Ev.own {X : Cx} {B : Bs} {Γ : Gm} {W : Wl} {a b : Expr} {pos : Pos} {op : Operator} {ι : Type} {pre : ι → Prop} {ar : ι → List Ty} {Rr : ι → Ty} {k n : Nat} {Cl : Addr} {f1 f2 : List (Str × Ty)} (hsf : PySem.W.selfFirst X.K Cl = true)
    (me : C8.Met X.prog X.w X.K X.mg X.base k Cl (PySem.dunder op.info.2) (spP pre ar Rr) []) (hr : Room n X.A) (hk : k ≤ n) (i : ι) (hp : pre i) (ha : Ev X B Γ W a (tyO Cl f1)) (hb : Ev X B Γ W b (tyO Cl f2)) (hi : ar i = [tyO Cl f1, tyO Cl f2]) (hR : ∀ v C, (Rr i).r v C → ∃ z, v = .ref z) :
    Ev X B Γ W (.BinOp a op b pos) (Rr i) := by
  obtain ⟨f, fd, ps, ds, hc, hm, F, bd, d⟩ := me.ex
  cases d
  refine Ev.op (op_own_ hc hsf hm F (hr.mono hk) bd) ha hb fun x y C H Q E r1 r2 q => ?_
  obtain ⟨p1, d1, v1, rfl, _, h1, _⟩ := getO E r1
  obtain ⟨p2, d2, v2, rfl, _, h2, _⟩ := getO E r2
  obtain ⟨g, E3, up⟩ := E.down
  exact ⟨p1, p2, d1, v1, d2, v2, rfl, rfl, h1, h2, i, C, g, hp, E3, by rw [hi]; exact .cons r1 (.cons r2 .nil), fun v C' H' E' r => ⟨hR v C' r, let ⟨s', E4⟩ := up C' H' E'; q v C' H' s' E4 r⟩⟩
where
  op_own_ {X : Cx} {op : Operator} {C f : Addr} {fd : FuncData} {ps : List Str} {k : Nat} {sp : Sp} (c : Cls X.K C) (hsf : PySem.W.selfFirst X.K C = true) (hm : Meth X.K C (PySem.dunder op.info.2) f)
    (F : FnOk X.prog X.w X.K X.mg X.base CX0 k f fd ps sp) (hr : Room k X.A) (hb : Binds X.K fd ps []) := MR.op_own c hsf hm F hr hb
theorem sh_ref {Cl : Addr} {q : Rat} (v : V) (C : Hp) (h : (tySh Cl q).r v C) : ∃ z, v = .ref z := let ⟨a, o, e, _⟩ := h; ⟨a, e⟩
/-! ### the numbers of a share -/
def rq (a b : Int) : Rat := Rat.divInt a b
theorem rq_eq {a b : Int} : rq a b = (a : Rat) / (b : Rat) := Rat.divInt_eq_div a b
theorem rq_num {a b : Int} (hb : 0 < b) : (rq a b).num = a / (Int.gcd (a.natAbs : Int) (b.natAbs : Int) : Nat) := by
  unfold rq
  rw [Rat.num_divInt, Int.sign_eq_one_of_pos hb, Int.one_mul, Int.gcd_comm]
  rfl
theorem rq_den {a b : Int} (hb : 0 < b) : ((rq a b).den : Int) = b / (Int.gcd (a.natAbs : Int) (b.natAbs : Int) : Nat) := by
  unfold rq
  rw [Rat.den_divInt, if_neg (by omega), Int.gcd_comm]
  have e : Int.gcd a b = Int.gcd (a.natAbs : Int) (b.natAbs : Int) := rfl
  rw [e, Int.natCast_ediv, Int.natAbs_of_nonneg (by omega)]
theorem rq_add (a b : Rat) : rq (a.num * b.den + b.num * a.den) ((a.den : Int) * b.den) = a + b := by
  rw [Rat.add_def']
  unfold rq
  rw [← Rat.divInt_ofNat]
  rfl
theorem rq_sub (a b : Rat) : rq (a.num * b.den - b.num * a.den) ((a.den : Int) * b.den) = a - b := by
  rw [Rat.sub_def']
  unfold rq
  rw [← Rat.divInt_ofNat]
  rfl
/-- small enough for the rules of great numbers -/
def Lb (n : Nat) (x : Int) : Prop := x.natAbs < 2 ^ n
structure Sm (q : Rat) : Prop where
  n : Lb 4000 q.num
  d : Lb 4000 q.den
theorem den_pos (q : Rat) : (0 : Int) < q.den := by have := q.den_pos; omega
theorem sm_mul {i j : Int} (h1 : Lb 4000 i) (h2 : Lb 4000 j) : CMulW i j := wide_mul h1 h2 (by decide) (by decide) (by decide)
theorem lb_mul {i j : Int} {a b : Nat} (h1 : Lb a i) (h2 : Lb b j) : Lb (a + b) (i * j) := wide_lt h1 h2
section
variable {P : Program} {w : World} {K : PySem.W.Frag} {mg : Str → Option Value} {base : Heap}
theorem sc_share : FnScope ["self", "over", "under", "divisor"] ["self", "over", "under"] (defScope s_share_init) := ⟨rfl, rfl, rfl, by decide +kernel, rfl, by decide +kernel, by decide +kernel⟩
abbrev shF (q : Rat) : List (Str × Ty) := [("over", tyI q.num), ("under", tyI q.den)]
abbrev sp_share (K : PySem.W.Frag) : Sp := spI (CShare K) (fun i : Int × Int => 0 < i.2 ∧ Lb 8000 i.2) (fun i => [tyI i.1, tyI i.2]) (fun i => shF (rq i.1 i.2))
theorem f_share (T : Tx K mg) : C8.Mak P w K mg base 2 "Share" (CShare K) (sp_share K) [] :=
  mkMak T.kShare T.gShare T.d_share_init sc_share (fun _ _ _ _ _ _ us hl => match us, hl with | [_, _, _], _ => rfl) (lenW fun _ => rfl) (bodyW fun cdv A outer s H E hr i B D p ⟨hu, hb⟩ fin finN => by
    have hg : 0 < Int.gcd (i.1.natAbs : Int) (i.2.natAbs : Int) := Int.gcd_pos_of_ne_zero_right _ (by omega)
    have hd : CDivW i.1 (Int.gcd (i.1.natAbs : Int) (i.2.natAbs : Int) : Nat) := wide_div (by omega) (b := 8000) (Nat.lt_of_le_of_lt (Nat.le_of_dvd (by omega) (by
      show Int.gcd (i.1.natAbs : Int) (i.2.natAbs : Int) ∣ i.2.natAbs
      exact Nat.gcd_dvd_right _ _)) hb) (by decide) (by decide)
    refine Sj.never (Tv.is (Tv.eqI (Ev.v 2 rfl) Ev.int) (decide_eq_false (by omega))) ?_
    refine Sj.set 3 sc_share.nd (Ev.call (f_gcd T) hr (by decide) (_, _) ⟨Int.natCast_nonneg _, Int.natCast_nonneg _⟩ (As.cons (absI T.f_abs (Ev.v 1 rfl)) (As.cons (absI T.f_abs (Ev.v 2 rfl)) As.nil))) ?_
    refine Sj.never (Tv.is (Tv.lt (Ev.v 2 rfl) Ev.int) (decide_eq_false (by omega))) ?_
    refine Sj.fld 0 (Ev.div (Ev.v 1 rfl) (Ev.v 3 rfl) hd) (Ev.v 0 rfl) rfl T.cShare T.nShare_over [] ?_
    refine Sj.fld 0 (Ev.div (Ev.v 2 rfl) (Ev.v 3 rfl) hd) (Ev.v 0 rfl) rfl T.cShare T.nShare_under ["over"] ?_
    refine Sj.nil fun σ C H S => finN σ C H (S.en.wc (.c (fun o C h => ?_) .n)) rfl
    show (cIns (CShare K) [("over", tyI (rq i.1 i.2).num), ("under", tyI (rq i.1 i.2).den)]).r o C
    rw [rq_num hu, rq_den hu]
    exact h)
/-- a share made -/
theorem Ev.share {X : Cx} {B : Bs} {Γ : Gm} {W : Wl} {a b : Expr} {n : Nat} {pos p : Pos} {i j : Int} (T : Tx X.K X.mg) (hr : Room n X.A) (hk : 3 ≤ n) (hj : 0 < j) (hb : Lb 8000 j) (h1 : Ev X B Γ W a (tyI i)) (h2 : Ev X B Γ W b (tyI j)) (hg : Gl X "Share" := by rfl)
    (he : starEach [a, b] X.env = (false, eval a X.env) :: starEach [b] X.env := by rfl) (he2 : starEach [b] X.env = (false, eval b X.env) :: starEach [] X.env := by rfl) (hpl : (backTo pos (starEach [b] X.env)).any (·.1) = false := by rfl) :
    Ev X B Γ W (.Call (.Name "Share" p) [a, b] [] pos) (tySh (CShare X.K) (rq i j)) :=
  Ev.mk (f_share T) hr hk (i, j) ⟨hj, hb⟩ (As.cons h1 (As.cons h2 As.nil he2) he) hg (by decide) he hpl
theorem Lv.sh {X : Cx} {B : Bs} {Γ : Gm} {W : Wl} {e : Expr} {q : Rat} {Cl : Addr} (h : Ev X B Γ W e (tySh Cl q)) : Lv X B Γ W e (cIns Cl (shF q)) := Lv.core h
theorem Ev.over {X : Cx} {B : Bs} {Γ : Gm} {W : Wl} {e : Expr} {pos : Pos} {q : Rat} (T : Tx X.K X.mg) (h : Ev X B Γ W e (tySh (CShare X.K) q)) (hb : attributeBase e "over" X.env (eval e X.env) = eval e X.env := by rfl) : Ev X B Γ W (.Attribute e "over" pos) (tyI q.num) := Ev.fld (Lv.sh h) T.cShare T.nShare_over rfl hb
theorem Ev.under {X : Cx} {B : Bs} {Γ : Gm} {W : Wl} {e : Expr} {pos : Pos} {q : Rat} (T : Tx X.K X.mg) (h : Ev X B Γ W e (tySh (CShare X.K) q)) (hb : attributeBase e "under" X.env (eval e X.env) = eval e X.env := by rfl) : Ev X B Γ W (.Attribute e "under" pos) (tyI q.den) := Ev.fld (Lv.sh h) T.cShare T.nShare_under rfl hb
theorem sc_add : FnScope ["self", "other"] ["self", "other"] (defScope s_share_add) := ⟨rfl, rfl, rfl, by decide +kernel, rfl, by decide +kernel, by decide +kernel⟩
theorem sc_sub : FnScope ["self", "other"] ["self", "other"] (defScope s_share_sub) := ⟨rfl, rfl, rfl, by decide +kernel, rfl, by decide +kernel, by decide +kernel⟩
theorem sc_below : FnScope ["self", "other"] ["self", "other"] (defScope s_share_is_below) := ⟨rfl, rfl, rfl, by decide +kernel, rfl, by decide +kernel, by decide +kernel⟩
abbrev sp_sh2 (K : PySem.W.Frag) (R : Rat → Rat → Ty) : Sp := spP (fun i : Rat × Rat => Sm i.1 ∧ Sm i.2) (fun i => [tySh (CShare K) i.1, tySh (CShare K) i.2]) (fun i => R i.1 i.2)
theorem den_mul (a b : Rat) : 0 < (a.den : Int) * b.den := Int.mul_pos (den_pos a) (den_pos b)
theorem f_add (T : Tx K mg) : C8.Met P w K mg base 4 (CShare K) "__add__" (sp_sh2 K fun a b => tySh (CShare K) (a + b)) [] :=
  mkMet T.cShare T.mShare___add__ T.d_share_add sc_add (fun _ _ _ _ _ _ us hl => match us, hl with | [_, _], _ => rfl) (lenP fun _ => rfl) (bodyP fun cdv A outer s H E hr i B D ⟨h1, h2⟩ fin _ => by
    refine Sj.ret (Ev.share T hr (by decide) (den_mul _ _) (lb_mul h1.d h2.d)
      (Ev.add (Ev.mul (Ev.over T (Ev.v 0 rfl)) (Ev.under T (Ev.v 1 rfl)) (sm_mul h1.n h2.d)) (Ev.mul (Ev.over T (Ev.v 1 rfl)) (Ev.under T (Ev.v 0 rfl)) (sm_mul h2.n h1.d)))
      (Ev.mul (Ev.under T (Ev.v 0 rfl)) (Ev.under T (Ev.v 1 rfl)) (sm_mul h1.d h2.d))) fin (fun v C h => ?_) .n
    rw [rq_add] at h; exact h)
theorem f_sub (T : Tx K mg) : C8.Met P w K mg base 4 (CShare K) "__sub__" (sp_sh2 K fun a b => tySh (CShare K) (a - b)) [] :=
  mkMet T.cShare T.mShare___sub__ T.d_share_sub sc_sub (fun _ _ _ _ _ _ us hl => match us, hl with | [_, _], _ => rfl) (lenP fun _ => rfl) (bodyP fun cdv A outer s H E hr i B D ⟨h1, h2⟩ fin _ => by
    refine Sj.ret (Ev.share T hr (by decide) (den_mul _ _) (lb_mul h1.d h2.d)
      (Ev.sub (Ev.mul (Ev.over T (Ev.v 0 rfl)) (Ev.under T (Ev.v 1 rfl)) (sm_mul h1.n h2.d)) (Ev.mul (Ev.over T (Ev.v 1 rfl)) (Ev.under T (Ev.v 0 rfl)) (sm_mul h2.n h1.d)))
      (Ev.mul (Ev.under T (Ev.v 0 rfl)) (Ev.under T (Ev.v 1 rfl)) (sm_mul h1.d h2.d))) fin (fun v C h => ?_) .n
    rw [rq_sub] at h; exact h)
theorem f_below (T : Tx K mg) : C8.Met P w K mg base 1 (CShare K) "is_below" (sp_sh2 K fun a b => tyB (decide (a < b))) [] :=
  mkMet T.cShare T.mShare_is_below T.d_share_is_below sc_below (fun _ _ _ _ _ _ us hl => match us, hl with | [_, _], _ => rfl) (lenP fun _ => rfl) (bodyP fun cdv A outer s H E hr i B D ⟨h1, h2⟩ fin _ => by
    refine Sj.ret (Ev.lt (Ev.mul (Ev.over T (Ev.v 0 rfl)) (Ev.under T (Ev.v 1 rfl)) (sm_mul h1.n h2.d)) (Ev.mul (Ev.over T (Ev.v 1 rfl)) (Ev.under T (Ev.v 0 rfl)) (sm_mul h2.n h1.d))) fin (fun v C h => ?_) .n
    have e : decide (i.1 < i.2) = decide (i.1.num * (i.2.den : Int) < i.2.num * (i.1.den : Int)) := by rw [decide_eq_decide]; exact Rat.lt_iff _ _
    show v = V.bl (decide (i.1 < i.2))
    rw [e]; exact h)
theorem sc_lesser : FnScope ["share", "other"] ["share", "other"] (defScope s_lesser_of) := ⟨rfl, rfl, rfl, by decide +kernel, rfl, by decide +kernel, by decide +kernel⟩
theorem f_lesser (T : Tx K mg) : C8.Cal P w K mg base 2 "lesser_of" (sp_sh2 K fun a b => tySh (CShare K) (min a b)) [] :=
  mkCal T.glesser_of T.d_lesser_of sc_lesser (fun _ _ _ _ _ _ us hl => match us, hl with | [_, _], _ => rfl) (lenP fun _ => rfl) (bodyP fun cdv A outer s H E hr i B D ⟨h1, h2⟩ fin _ => by
    refine Sj.ret (Ev.ife (Tv.val (Ev.meth (pl := _) (f_below T) hr (by decide) i ⟨h1, h2⟩ (Ev.v 0 rfl) (As.cons (Ev.v 1 rfl) As.nil)))
      (fun hb => Ev.eq (Ev.v 0 rfl) (R' := tySh (CShare K) (min i.1 i.2)) ?_) (fun hb => Ev.eq (Ev.v 1 rfl) ?_)) fin (fun v C h => h) .n
    · have hb : i.1 < i.2 := of_decide_eq_true hb.symm
      show tySh (CShare K) i.1 = _
      rw [show min i.1 i.2 = i.1 by grind]
    · have hb : ¬ i.1 < i.2 := of_decide_eq_false hb.symm
      show tySh (CShare K) i.2 = _
      rw [show min i.1 i.2 = i.2 by grind])
theorem sc_most1 : FnScope ["level"] ["level"] (defScope s_at_most_one) := ⟨rfl, rfl, rfl, by decide +kernel, rfl, by decide +kernel, by decide +kernel⟩
theorem rq11 : rq 1 1 = 1 := by rw [rq_eq]; grind
theorem rq01 : rq 0 1 = 0 := by rw [rq_eq]; grind
theorem sm1 : Sm 1 := ⟨by unfold Lb; decide, by unfold Lb; decide⟩
theorem f_most1 (T : Tx K mg) : C8.Cal P w K mg base 4 "at_most_one" (spP Sm (fun i : Rat => [tySh (CShare K) i]) (fun i => tySh (CShare K) (min i 1))) [] :=
  mkCal T.gat_most_one T.d_at_most_one sc_most1 (fun _ _ _ _ _ _ us hl => match us, hl with | [_], _ => rfl) (lenP fun _ => rfl) (bodyP fun cdv A outer s H E hr i B D h1 fin _ => by
    refine Sj.ret (Ev.call (f_lesser T) hr (by decide) (i, rq 1 1) ⟨h1, by rw [rq11]; exact sm1⟩ (As.cons (Ev.v 0 rfl) (As.cons (Ev.share T hr (by decide) (by decide) (by unfold Lb; decide) Ev.int Ev.int) As.nil))) fin (fun v C h => ?_) .n
    rw [show min i 1 = min i (rq 1 1) by rw [rq11]]; exact h)
end
end MF
set_option maxHeartbeats 4000000
/-! defs: sums of shares, multiples, whole parts. -/
namespace MF
open PySem PySem.Spec L2 MT MJ
open PyProof.Rows hiding St
theorem ins_of {K : PySem.W.Frag} {C : Addr} (cl : Cls K C) (h : insB K C = true) : C8.InsC K C := by
  unfold insB at h
  simp only [Bool.and_eq_true, decide_eq_true_eq] at h
  exact ⟨cl, h.1, h.2.1, h.2.2.1, h.2.2.2.1, h.2.2.2.2⟩
section
variable {P : Program} {w : World} {K : PySem.W.Frag} {mg : Str → Option Value} {base : Heap}
theorem ex_of (T : Tx K mg) : insB K (CShare K) = true ∧ insB K (CMarking K) = true ∧ PySem.W.selfFirst K (CShare K) = true := by
  have h := T.says.more
  unfold exB at h
  rw [Bool.and_eq_true, Bool.and_eq_true] at h
  exact h
theorem iShare (T : Tx K mg) : C8.InsC K (CShare K) := ins_of T.cShare (ex_of T).1
theorem iMarking (T : Tx K mg) : C8.InsC K (CMarking K) := ins_of T.cMarking (ex_of T).2.1
theorem Ev.shAdd {X : Cx} {B : Bs} {Γ : Gm} {W : Wl} {a b : Expr} {n : Nat} {pos : Pos} {q r : Rat} (T : Tx X.K X.mg) (hr : Room n X.A) (hk : 4 ≤ n) (h1 : Sm q) (h2 : Sm r) (ha : Ev X B Γ W a (tySh (CShare X.K) q)) (hb : Ev X B Γ W b (tySh (CShare X.K) r)) : Ev X B Γ W (.BinOp a .Add b pos) (tySh (CShare X.K) (q + r)) :=
  Ev.own (op := .Add) (Rr := fun i : Rat × Rat => tySh (CShare X.K) (i.1 + i.2)) (ex_of T).2.2 (f_add T) hr hk (q, r) (And.intro h1 h2) ha hb rfl sh_ref
theorem Ev.shSub {X : Cx} {B : Bs} {Γ : Gm} {W : Wl} {a b : Expr} {n : Nat} {pos : Pos} {q r : Rat} (T : Tx X.K X.mg) (hr : Room n X.A) (hk : 4 ≤ n) (h1 : Sm q) (h2 : Sm r) (ha : Ev X B Γ W a (tySh (CShare X.K) q)) (hb : Ev X B Γ W b (tySh (CShare X.K) r)) : Ev X B Γ W (.BinOp a .Sub b pos) (tySh (CShare X.K) (q - r)) :=
  Ev.own (op := .Sub) (Rr := fun i : Rat × Rat => tySh (CShare X.K) (i.1 - i.2)) (ex_of T).2.2 (f_sub T) hr hk (q, r) (And.intro h1 h2) ha hb rfl sh_ref
def rs (l : List Rat) : Rat := l.foldl (· + ·) 0
theorem rs_take {l : List Rat} {n : Nat} {x : Rat} (h : l[n]? = some x) : rs (l.take (n + 1)) = rs (l.take n) + x := by
  unfold rs
  rw [List.take_succ, h, List.foldl_append]
  rfl
theorem sc_sumof : FnScope ["shares", "total", "share"] ["shares"] (defScope s_sum_of) := ⟨rfl, rfl, rfl, by decide +kernel, rfl, by decide +kernel, by decide +kernel⟩
abbrev sp_sumof (K : PySem.W.Frag) : Sp := spP (fun l : List Rat => (∀ q ∈ l, Sm q) ∧ ∀ n, Sm (rs (l.take n))) (fun l => [tyLst (l.map (tySh (CShare K)))]) (fun l => tySh (CShare K) (rs l))
theorem f_sumof (T : Tx K mg) : C8.Cal P w K mg base 5 "sum_of" (sp_sumof K) [] :=
  mkCal T.gsum_of T.d_sum_of sc_sumof (fun _ _ _ _ _ _ us hl => match us, hl with | [_], _ => rfl) (lenP fun _ => rfl) (bodyP fun cdv A outer s H E hr l B D ⟨h1, h2⟩ fin _ => by
    refine Sj.set 1 sc_sumof.nd (Ev.share T hr (by decide) (by decide) (by unfold Lb; decide) Ev.int Ev.int) ?_
    rw [rq01]
    refine Sj.for_ rfl PassesOwn.never (Iv.list (Ev.v 0 rfl)) (fun x => gName 2 sc_sumof.nd) (fun n => [some (tyLst (l.map (tySh (CShare K)))), some (tySh (CShare K) (rs (l.take n))), none]) (fun _ => []) (.k (.k (.d .n))) .n (fun B' _ _ _ n q hn => ?_) ?_
    · refine Sj.set 1 sc_sumof.nd (Ev.shAdd T hr (by decide) (h2 n) (h1 q (List.mem_of_getElem? hn)) (Ev.v 1 rfl) (Ev.v 2 rfl)) ?_
      refine Sj.at (.k (.c (fun v C h => ?_) (.d .n))) .n
      rw [rs_take hn]; exact h
    · refine Sj.ret (Ev.v 1 rfl) fin (fun v C h => ?_) .n
      rw [List.take_length] at h; exact h)
/-! ### multiples -/
def lcmI (a b : Int) : Int := ((a.natAbs.lcm b.natAbs : Nat) : Int)
theorem lcm_eq {a b : Int} (ha : 0 < a) (hb : 0 < b) : a / (Int.gcd a b : Nat) * b = lcmI a b := by
  obtain ⟨m, rfl⟩ : ∃ m : Nat, a = m := ⟨a.toNat, by omega⟩
  obtain ⟨n, rfl⟩ : ∃ n : Nat, b = n := ⟨b.toNat, by omega⟩
  unfold lcmI
  show (m : Int) / ((Nat.gcd m n : Nat) : Int) * (n : Int) = ((Nat.lcm m n : Nat) : Int)
  unfold Nat.lcm
  rw [← Int.natCast_ediv, ← Int.natCast_mul]
  congr 1
  obtain ⟨c, hc⟩ := Nat.gcd_dvd_left m n
  have hg : 0 < Nat.gcd m n := Nat.gcd_pos_of_pos_left _ (by omega)
  have e1 : m / Nat.gcd m n = c := by
    conv => lhs; lhs; rw [hc]
    exact Nat.mul_div_cancel_left _ hg
  rw [e1]
  have e2 : m * n = Nat.gcd m n * (c * n) := by
    conv => lhs; lhs; rw [hc]
    rw [Nat.mul_assoc]
  rw [e2, Nat.mul_div_cancel_left _ hg]
theorem sc_lcm : FnScope ["a", "b"] ["a", "b"] (defScope s_least_multiple) := ⟨rfl, rfl, rfl, by decide +kernel, rfl, by decide +kernel, by decide +kernel⟩
abbrev sp_lcm : Sp := spP (fun i : Int × Int => 0 < i.1 ∧ 0 < i.2 ∧ Lb 4000 i.1 ∧ Lb 4000 i.2) (fun i => [tyI i.1, tyI i.2]) (fun i => tyI (lcmI i.1 i.2))
theorem lb_div {a g : Int} {n : Nat} (h : Lb n a) : Lb n (a / g) := Nat.lt_of_le_of_lt (Int.natAbs_ediv_le_natAbs a g) h
theorem lb_le {a b : Int} {n : Nat} (h : Lb n b) (h2 : a.natAbs ≤ b.natAbs) : Lb n a := Nat.lt_of_le_of_lt h2 h
theorem lb_mono {a : Int} {n m : Nat} (h : Lb n a) (h2 : n ≤ m) : Lb m a := Nat.lt_of_lt_of_le h (Nat.pow_le_pow_right (by decide) h2)
theorem f_lcm (T : Tx K mg) : C8.Cal P w K mg base 2 "least_multiple" sp_lcm [] :=
  mkCal T.gleast_multiple T.d_least_multiple sc_lcm (fun _ _ _ _ _ _ us hl => match us, hl with | [_, _], _ => rfl) (lenP fun _ => rfl) (bodyP fun cdv A outer s H E hr i B D ⟨h1, h2, h3, h4⟩ fin _ => by
    have hg : (0 : Int) < (Int.gcd i.1 i.2 : Nat) := by have := Int.gcd_pos_of_ne_zero_left i.2 (show i.1 ≠ 0 by omega); omega
    have hd : CDivW i.1 (Int.gcd i.1 i.2 : Nat) := wide_div hg (b := 4000) (Nat.lt_of_le_of_lt (by
      rw [Int.natAbs_natCast]
      exact Nat.le_of_dvd (by omega) (Nat.gcd_dvd_left _ _)) h3) (by decide) (by decide)
    refine Sj.ret (Ev.mul (Ev.div (Ev.v 0 rfl) (Ev.call (f_gcd T) hr (by decide) i ⟨by omega, by omega⟩ (As.cons (Ev.v 0 rfl) (As.cons (Ev.v 1 rfl) As.nil))) hd) (Ev.v 1 rfl) (sm_mul (lb_div h3) h4)) fin (fun v C h => ?_) .n
    rw [← lcm_eq h1 h2]; exact h)
/-! ### whole parts -/
def wpU (l : List Rat) : Int := l.foldl (fun u q => lcmI u q.den) 1
def wpP (l : List Rat) : List Int := l.map fun q => q.num * (wpU l / q.den)
def gcN (u p : Int) : Int := if 0 < p then (Int.gcd p u : Nat) else u
def wpG (ps : List Int) : Int := ps.foldl gcN 0
theorem foldl_take {α β : Type} (f : β → α → β) (b : β) {l : List α} {n : Nat} {x : α} (h : l[n]? = some x) : (l.take (n + 1)).foldl f b = f ((l.take n).foldl f b) x := by
  rw [List.take_succ, h, List.foldl_append]
  rfl
structure WpIn (D : Int) (l : List Rat) : Prop where
  d0 : 0 < D
  dl : Lb 4000 D
  dv : ∀ q ∈ l, (q.den : Int) ∣ D
  sm : ∀ q ∈ l, Sm q
  pos : ∀ q ∈ l, 0 < q.num
  len : l.length ≤ 1000
theorem lcm_pos {a b : Int} (ha : 0 < a) (hb : 0 < b) : 0 < lcmI a b := by
  unfold lcmI
  have := Nat.lcm_pos (m := a.natAbs) (n := b.natAbs) (by omega) (by omega)
  omega
theorem lcm_dvd {a b D : Int} (ha : a ∣ D) (hb : b ∣ D) : lcmI a b ∣ D := by
  unfold lcmI
  refine Int.natAbs_dvd_natAbs.mp ?_
  rw [Int.natAbs_natCast]
  exact Nat.lcm_dvd (Int.natAbs_dvd_natAbs.mpr ha) (Int.natAbs_dvd_natAbs.mpr hb)
theorem dvd_lcm_l (a b : Int) : a ∣ lcmI a b := by
  unfold lcmI
  refine Int.natAbs_dvd_natAbs.mp ?_
  rw [Int.natAbs_natCast]
  exact Nat.dvd_lcm_left _ _
theorem dvd_lcm_r (a b : Int) : b ∣ lcmI a b := by
  unfold lcmI
  refine Int.natAbs_dvd_natAbs.mp ?_
  rw [Int.natAbs_natCast]
  exact Nat.dvd_lcm_right _ _
theorem fold_u {D : Int} : ∀ (l : List Rat) (u : Int), 0 < u → u ∣ D → (∀ q ∈ l, (q.den : Int) ∣ D) → 0 < l.foldl (fun u q => lcmI u q.den) u ∧ l.foldl (fun u q => lcmI u q.den) u ∣ D ∧ u ∣ l.foldl (fun u q => lcmI u q.den) u ∧ ∀ q ∈ l, (q.den : Int) ∣ l.foldl (fun u q => lcmI u q.den) u
  | [], u, h0, h1, _ => ⟨h0, h1, Int.dvd_refl _, fun q hq => by simp at hq⟩
  | q :: l, u, h0, h1, h2 => by
    obtain ⟨a, b, c, d⟩ := fold_u l (lcmI u q.den) (lcm_pos h0 (den_pos q)) (lcm_dvd h1 (h2 q List.mem_cons_self)) fun r hr => h2 r (List.mem_cons_of_mem _ hr)
    refine ⟨a, b, Int.dvd_trans (dvd_lcm_l _ _) c, fun r hr => ?_⟩
    rcases List.mem_cons.mp hr with rfl | hr
    · exact Int.dvd_trans (dvd_lcm_r _ _) c
    · exact d r hr
theorem wpU_ok {D : Int} {l : List Rat} (h : WpIn D l) (n : Nat) : 0 < (l.take n).foldl (fun u q => lcmI u q.den) 1 ∧ (l.take n).foldl (fun u q => lcmI u q.den) 1 ∣ D :=
  let ⟨a, b, _, _⟩ := fold_u (D := D) (l.take n) 1 (by decide) (Int.one_dvd _) fun q hq => h.dv q (List.mem_of_mem_take hq)
  ⟨a, b⟩
theorem lb_dvd {a D : Int} {n : Nat} (h : Lb n D) (h0 : 0 < D) (hd : a ∣ D) : Lb n a := lb_le h (Nat.le_of_dvd (by omega) (Int.natAbs_dvd_natAbs.mpr hd))
theorem wpG_nn : ∀ (ps : List Int) (u : Int), 0 ≤ u → 0 ≤ ps.foldl gcN u
  | [], u, h => h
  | p :: ps, u, h => wpG_nn ps _ (by unfold gcN; split; exact Int.natCast_nonneg _; exact h)
theorem wpG_dvd : ∀ (ps : List Int) (u : Int), (∀ p ∈ ps, 0 < p) → ps.foldl gcN u ∣ u ∧ ∀ p ∈ ps, ps.foldl gcN u ∣ p
  | [], u, _ => ⟨Int.dvd_refl _, fun p hp => by simp at hp⟩
  | p :: ps, u, h => by
    obtain ⟨a, b⟩ := wpG_dvd ps (gcN u p) fun r hr => h r (List.mem_cons_of_mem _ hr)
    have e : gcN u p = (Int.gcd p u : Nat) := if_pos (h p List.mem_cons_self)
    rw [e] at a b
    have e2 : (p :: ps).foldl gcN u = ps.foldl gcN (Int.gcd p u : Nat) := by show ps.foldl gcN (gcN u p) = _; rw [e]
    rw [e2]
    refine ⟨Int.dvd_trans a (Int.gcd_dvd_right p u), fun r hr => ?_⟩
    rcases List.mem_cons.mp hr with rfl | hr
    · exact Int.dvd_trans a (Int.gcd_dvd_left r u)
    · exact b r hr
theorem wpP_at {D : Int} {l : List Rat} (h : WpIn D l) {q : Rat} (hq : q ∈ l) : 0 < q.num * (wpU l / q.den) ∧ Lb 8000 (q.num * (wpU l / q.den)) := by
  obtain ⟨a, b, c, d⟩ := fold_u (D := D) l 1 (by decide) (Int.one_dvd _) h.dv
  have hU : 0 < wpU l / q.den := Int.ediv_pos_of_pos_of_dvd a (Int.le_of_lt (den_pos q)) (d q hq)
  exact ⟨Int.mul_pos (h.pos q hq) hU, lb_mul (h.sm q hq).n (lb_div (lb_dvd h.dl h.d0 b))⟩
theorem wpP_mem {D : Int} {l : List Rat} (h : WpIn D l) {p : Int} (hp : p ∈ wpP l) : 0 < p ∧ Lb 8000 p := by
  obtain ⟨q, hq, rfl⟩ := List.mem_map.mp hp
  exact wpP_at h hq
theorem sc_whole : FnScope ["shares", "under", "share", "parts", "divisor", "part"] ["shares"] (defScope s_whole_parts) := ⟨rfl, rfl, rfl, by decide +kernel, rfl, by decide +kernel, by decide +kernel⟩
abbrev sp_whole (K : PySem.W.Frag) : Sp := spP (fun l : List Rat => ∃ D, WpIn D l) (fun l => [tyLst (l.map (tySh (CShare K)))]) (fun l => tyTup ((wpP l).map fun p => tyI (p / wpG (wpP l))))
theorem f_whole (T : Tx K mg) : C8.Cal P w K mg base 3 "whole_parts" (sp_whole K) [] :=
  mkCal T.gwhole_parts T.d_whole_parts sc_whole (fun _ _ _ _ _ _ us hl => match us, hl with | [_], _ => rfl) (lenP fun _ => rfl) (bodyP fun cdv A outer s H E hr l B D ⟨D0, hw⟩ fin _ => by
    have hlen : l.length < sizeLine := small1000 hw.len
    refine Sj.set 1 sc_whole.nd Ev.int ?_
    refine Sj.for_ rfl PassesOwn.never (Iv.list (Ev.v 0 rfl)) (fun x => gName 2 sc_whole.nd) (fun n => [some (tyLst (l.map (tySh (CShare K)))), some (tyI ((l.take n).foldl (fun u q => lcmI u q.den) 1)), none, none, none, none]) (fun _ => []) (.k (.k (.d (.d (.d (.d .n)))))) .n (fun B' _ _ _ n q hn => ?_) ?_
    · have hq := List.mem_of_getElem? hn
      obtain ⟨a, b⟩ := wpU_ok hw n
      refine Sj.set 1 sc_whole.nd (Ev.call (f_lcm T) hr (by decide) (_, (q.den : Int)) ⟨a, den_pos q, lb_dvd hw.dl hw.d0 b, (hw.sm q hq).d⟩ (As.cons (Ev.v 1 rfl) (As.cons (Ev.under T (Ev.v 2 rfl)) As.nil))) ?_
      refine Sj.at (.k (.c (fun v C h => ?_) (.d (.d (.d (.d .n)))))) .n
      rw [foldl_take _ _ hn]; exact h
    · rw [List.take_length]
      have hU := wpU_ok hw l.length
      rw [List.take_length] at hU
      refine Sj.setLc 3 [("share", 2)] rfl sc_whole.nd (Iv.list (Ev.v 0 rfl)) (blkOk_by (N := ["shares", "under", "share", "parts", "divisor", "part"]) (sc := defScope s_whole_parts) (by decide +kernel)) (fun x s0 H0 Cc cl fp => gName 2 sc_whole.nd) (by decide) hlen
        (Ro := fun q => tyI (q.num * (wpU l / q.den))) (fun q hq s0 H0 Cc cl fp D K => Ev.mul (Ev.over T (Ev.v 2 rfl)) (Ev.div (Ev.v 1 rfl) (Ev.under T (Ev.v 2 rfl)) (wide_div (den_pos q) (hw.sm q hq).d (by decide) (by decide))) (sm_mul (hw.sm q hq).n (lb_div (lb_dvd hw.dl hw.d0 hU.2)))) ?_
      have eP : (l.map fun q => tyI (q.num * (wpU l / q.den))) = (wpP l).map tyI := by unfold wpP; rw [List.map_map]; rfl
      rw [eP]
      refine Sj.set 4 sc_whole.nd Ev.int ?_
      refine Sj.for_ rfl PassesOwn.never (Iv.list (Ev.v 3 rfl)) (fun x => gName 5 sc_whole.nd) (fun n => [none, none, none, some (tyLst ((wpP l).map tyI)), some (tyI (((wpP l).take n).foldl gcN 0)), none]) (fun _ => []) (.d (.d (.d (.k (.k (.d .n)))))) .n (fun B' _ _ _ n q hn => ?_) ?_
      · have hq := wpP_mem hw (List.mem_of_getElem? hn)
        refine Sj.if_ (Tv.is (Tv.gt (Ev.v 5 rfl) Ev.int) (decide_eq_true hq.1)) (fun _ => ?_) (fun h => by cases h)
        refine Sj.set 4 sc_whole.nd (Ev.call (f_gcd T) hr (by decide) (q, _) ⟨Int.le_of_lt hq.1, wpG_nn _ _ (by decide)⟩ (As.cons (Ev.v 5 rfl) (As.cons (Ev.v 4 rfl) As.nil))) ?_
        refine Sj.go (Sj.at (.d (.d (.d (.k (.c (fun v C h => ?_) (.d .n)))))) .n) rfl
        rw [foldl_take _ _ hn]
        show v = V.int (gcN _ q)
        unfold gcN
        rw [if_pos hq.1]; exact h
      · rw [List.take_length]
        have hgd := wpG_dvd (wpP l) 0 fun p hp => (wpP_mem hw hp).1
        refine Sj.ret (tupL T.f_tuple (Lv.core (Ev.lc [("part", 5)] rfl sc_whole.nd (Iv.list (Ev.v 3 rfl)) (blkOk_by (N := ["shares", "under", "share", "parts", "divisor", "part"]) (sc := defScope s_whole_parts) (by decide +kernel)) (fun x s0 H0 Cc cl fp => gName 5 sc_whole.nd) (by decide) (by unfold wpP; rw [List.length_map]; exact hlen)
          (Ro := fun p => tyI (p / wpG (wpP l))) (fun p hp s0 H0 Cc cl fp D K => Ev.div (Ev.v 5 rfl) (Ev.v 4 rfl) ?_)))) fin (fun v C h => h) .n
        have h1 := wpP_mem hw hp
        have h2 := hgd.2 p hp
        have h3 : 0 < wpG (wpP l) := by
          have h4 : 0 ≤ wpG (wpP l) := wpG_nn _ _ (by decide)
          rcases Int.lt_or_eq_of_le h4 with h | h
          · exact h
          · exfalso
            have h2 : wpG (wpP l) ∣ p := h2
            rw [← h, Int.zero_dvd] at h2
            omega
        exact wide_div h3 (lb_dvd h1.2 h1.1 h2) (by decide) (by decide))
end
end MF
set_option maxHeartbeats 4000000
/-! defs: changes, tables. -/
namespace MF
open PySem PySem.Spec L2 MT MJ
open PyProof.Rows hiding St
abbrev Chs := List (Str × List Str)
abbrev txT (l : List Str) : Ty := tyTup (l.map tyS)
abbrev chFs (ch : Chs) : List (Str × Ty) := [("kept", tyD (vmap txT ch))]
abbrev tyCh (K : PySem.W.Frag) (ch : Chs) : Ty := tyO (CChanges K) (chFs ch)
def chF (rows : Chs) : Chs := rows.map fun r => (r.1, srt (dst (r.1 :: r.2)))
theorem chF_keys (rows : Chs) : (chF rows).map (·.1) = rows.map (·.1) := by unfold chF; rw [List.map_map]; rfl
theorem vmap_keys {α β : Type} (R : α → β) (m : List (Str × α)) : (vmap R m).map (·.1) = m.map (·.1) := by unfold vmap; rw [List.map_map]; rfl
theorem vmap_vals {α β : Type} (R : α → β) (m : List (Str × α)) : (vmap R m).map (·.2) = m.map fun p => R p.2 := by unfold vmap; rw [List.map_map]; rfl
structure ChIn (rows : Chs) : Prop where
  nd : (rows.map (·.1)).Nodup
  len : rows.length ≤ 1000
  each : ∀ r ∈ rows, r.2.length ≤ 60
section
variable {P : Program} {w : World} {K : PySem.W.Frag} {mg : Str → Option Value} {base : Heap}
theorem sc_chinit : FnScope ["self", "rows", "kept", "at", "text", "readable"] ["self", "rows"] (defScope s_changes_init) := ⟨rfl, rfl, rfl, by decide +kernel, rfl, by decide +kernel, by decide +kernel⟩
abbrev sp_chinit (K : PySem.W.Frag) : Sp := spI (CChanges K) ChIn (fun rows => [tyLst (rows.map fun r => tyTup [tyS r.1, tyLst (r.2.map tyS)])]) (fun rows => chFs (chF rows))
theorem f_changes (T : Tx K mg) : C8.Mak P w K mg base 1 "Changes" (CChanges K) (sp_chinit K) [] :=
  mkMak T.kChanges T.gChanges T.d_changes_init sc_chinit (fun _ _ _ _ _ _ us hl => match us, hl with | [_, _], _ => rfl) (lenW fun _ => rfl) (bodyW fun cdv A outer s H E hr rows B D p hp fin finN => by
    have hu := hu_of hr
    refine Sj.newD 2 sc_chinit.nd fun q => ?_
    refine Sj.for_ rfl PassesOwn.never (Iv.enumM T.f_enumerate (Ev.v 1 rfl)) (fun x => gLt rfl (gLc (gName 3 sc_chinit.nd) (gLc (gLt rfl (gLc (gName 4 sc_chinit.nd) (gLc (gName 5 sc_chinit.nd) gL0))) gL0)))
      (fun n => [some (tyP p), none, some (tyP q), none, none, none]) (fun n => [(p, cIns (CChanges K) []), (q, cD (vmap txT (chF (rows.take n))))]) (.k (.d (.k (.d (.d (.d .n)))))) (Wc.refl _) (fun B' _ _ _ n z hn => ?_) ?_
    · obtain ⟨hx, rfl⟩ := zip_at hn
      obtain ⟨r, n⟩ := z
      have hr' : r ∈ rows := List.mem_of_getElem? hx
      have ht : rows.take (n + 1) = rows.take n ++ [r] := by rw [List.take_succ, hx]; rfl
      have hnew : r.1 ∉ (rows.take n).map (·.1) := fun h => by
        have nd := hp.nd
        rw [← List.take_append_drop (n + 1) rows, ht, List.map_append, List.map_append] at nd
        have := (List.nodup_append.mp (List.nodup_append.mp nd).1).2.2 _ h r.1 (by simp)
        exact this rfl
      have hnew2 : r.1 ∉ (vmap txT (chF (rows.take n))).map (·.1) := by rw [vmap_keys, chF_keys]; exact hnew
      refine Sj.never (Tv.is (Tv.din (Ev.v 4 rfl) (Lv.own 1 (Ev.v 2 rfl) rfl) hu) (by rw [dget_none.mpr hnew2]; rfl)) ?_
      refine Sj.dput 1 hu (tupL T.f_tuple (Lv.core (sortSet (xs := r.1 :: r.2) rfl T.f_sorted (Ev.eq (setTx (xs := r.1 :: r.2) (g := fun x => x) rfl T.f_set (Ev.eq (Ev.addL (Ev.lst (As.cons (Ev.v 4 rfl) As.nil)) (listL T.f_list (Lv.core (Ev.v 5 rfl))) ?_) rfl) ?_) ?_) ?_))) (Ev.v 2 rfl) rfl (Ev.v 4 rfl) ?_ ?_
      · have := hp.each r hr'
        exact small64 (by simp; omega)
      · have := hp.each r hr'
        show r.2.length + 1 < 500
        omega
      · show tySet w _ = tySet w (r.1 :: r.2)
        rw [List.map_id']
      · have := hp.each r hr'
        show r.2.length + 1 < 64
        omega
      · have := hp.len
        show ((vmap txT (chF (rows.take n)))).length < sizeLine
        unfold vmap chF
        rw [List.length_map, List.length_map]
        exact small1000 (by rw [List.length_take]; omega)
      · refine Sj.at (.k (.d (.k (.d (.d (.d .n)))))) (.k (.c (fun o C h => ?_) .n))
        have e : vmap txT (chF (rows.take (n + 1))) = dput (vmap txT (chF (rows.take n))) r.1 (txT (srt (dst (r.1 :: r.2)))) := by
          rw [dput_new hnew2, ht]
          unfold vmap chF
          rw [List.map_append, List.map_append]; rfl
        show (cD (vmap txT (chF (rows.take (n + 1))))).r o C
        rw [e]; exact h
    · have hlen : rows.zipIdx.length = rows.length := List.length_zipIdx
      rw [hlen, List.take_length]
      refine Sj.freeze 1 2 rfl rfl ?_
      refine Sj.fld 0 (Ev.v 2 rfl) (Ev.v 0 rfl) rfl T.cChanges T.nChanges_kept [] ?_
      exact Sj.nil fun σ C H S => finN σ C H S.en rfl)
theorem Lv.kept {X : Cx} {B : Bs} {Γ : Gm} {W : Wl} {e : Expr} {pos : Pos} {ch : Chs} (T : Tx X.K X.mg) (h : Ev X B Γ W e (tyCh X.K ch)) (hb : attributeBase e "kept" X.env (eval e X.env) = eval e X.env := by rfl) : Lv X B Γ W (.Attribute e "kept" pos) (cD (vmap txT ch)) :=
  Lv.core (Ev.fld (Lv.core h) T.cChanges T.nChanges_kept rfl hb)
theorem sc_chtexts : FnScope ["self"] ["self"] (defScope s_changes_texts) := ⟨rfl, rfl, rfl, by decide +kernel, rfl, by decide +kernel, by decide +kernel⟩
abbrev sp_chtexts (K : PySem.W.Frag) : Sp := spP (fun ch : Chs => ch.length < 64) (fun ch => [tyCh K ch]) (fun ch => txT (srt (ch.map (·.1))))
theorem f_chtexts (T : Tx K mg) : C8.Met P w K mg base 1 (CChanges K) "texts" (sp_chtexts K) [] :=
  mkMet T.cChanges T.mChanges_texts T.d_changes_texts sc_chtexts (fun _ _ _ _ _ _ us hl => match us, hl with | [_], _ => rfl) (lenP fun _ => rfl) (bodyP fun cdv A outer s H E hr ch B D hp fin _ => by
    refine Sj.ret (tupL T.f_tuple (Lv.core (sortD rfl T.f_sorted (Lv.kept T (Ev.v 0 rfl)) (by unfold vmap; rw [List.length_map]; exact hp)))) fin (fun v C h => ?_) .n
    rw [vmap_keys] at h; exact h)
theorem sc_chof : FnScope ["self", "text"] ["self", "text"] (defScope s_changes_of) := ⟨rfl, rfl, rfl, by decide +kernel, rfl, by decide +kernel, by decide +kernel⟩
abbrev sp_chof (K : PySem.W.Frag) : Sp := spP (fun i : Chs × Str × List Str => dget i.1 i.2.1 = some i.2.2) (fun i => [tyCh K i.1, tyS i.2.1]) (fun i => txT i.2.2)
theorem f_chof (T : Tx K mg) : C8.Met P w K mg base 1 (CChanges K) "of" (sp_chof K) [] :=
  mkMet T.cChanges T.mChanges_of T.d_changes_of sc_chof (fun _ _ _ _ _ _ us hl => match us, hl with | [_, _], _ => rfl) (lenP fun _ => rfl) (bodyP fun cdv A outer s H E hr i B D hp fin _ => by
    have hu := hu_of hr
    have hg : dget (vmap txT i.1) i.2.1 = some (txT i.2.2) := by rw [dget_vmap, hp]; rfl
    refine Sj.never (Tv.is (Tv.dnotin (Ev.v 1 rfl) (Lv.kept T (Ev.v 0 rfl)) hu) (by rw [hg]; rfl)) ?_
    exact Sj.ret (dgetE (Lv.kept T (Ev.v 0 rfl)) (Ev.v 1 rfl) hg hu) fin (fun v C h => h) .n)
end
end MF
set_option maxHeartbeats 4000000
/-! defs: readable, tables, known. -/
namespace MF
open PySem PySem.Spec L2 MT MJ
open PyProof.Rows hiding St
theorem Ev.andB {X : Cx} {B : Bs} {Γ : Gm} {W : Wl} {a b : Expr} {es : List Expr} {pos : Pos} {p q : Bool} (ha : Ev X B Γ W a (tyB p)) (hb : p = true → Ev X B Γ W (.BoolOp .And (b :: es) pos) (tyB q)) : Ev X B Γ W (.BoolOp .And (a :: b :: es) pos) (tyB (p && q)) := fun σ C H S Q k =>
  toE (pe_and pe_s pe_s) (ha σ C H S _ fun v C1 H1 s1 E1 r => ⟨p, r, by
    cases p with
    | true => exact iteT (hb rfl σ C1 H1 (S.go s1 E1) Q fun v C' H' s' E' r' => k v C' H' (s1.trans s') E' r')
    | false => exact iteF (k _ C1 H1 s1 E1 rfl)⟩)
theorem Ev.orB {X : Cx} {B : Bs} {Γ : Gm} {W : Wl} {a b : Expr} {es : List Expr} {pos : Pos} {p q : Bool} (ha : Ev X B Γ W a (tyB p)) (hb : p = false → Ev X B Γ W (.BoolOp .Or (b :: es) pos) (tyB q)) : Ev X B Γ W (.BoolOp .Or (a :: b :: es) pos) (tyB (p || q)) := fun σ C H S Q k =>
  toE (pe_or pe_s pe_s) (ha σ C H S _ fun v C1 H1 s1 E1 r => ⟨p, r, by
    cases p with
    | false => exact iteF (hb rfl σ C1 H1 (S.go s1 E1) Q fun v C' H' s' E' r' => k v C' H' (s1.trans s') E' r')
    | true => exact iteT (k _ C1 H1 s1 E1 rfl)⟩)
theorem Ev.oneB {X : Cx} {B : Bs} {Γ : Gm} {W : Wl} {a : Expr} {pos : Pos} {op : BoolOp} {R : Ty} (ha : Ev X B Γ W a R) : Ev X B Γ W (.BoolOp op [a] pos) R := fun σ C H S Q k => toE (pe_one pe_s) (ha σ C H S Q k)
theorem Ev.notB {X : Cx} {B : Bs} {Γ : Gm} {W : Wl} {a : Expr} {pos : Pos} {p : Bool} (ha : Ev X B Γ W a (tyB p)) : Ev X B Γ W (.UnaryOp .Not a pos) (tyB (!p)) := fun σ C H S Q k =>
  toE (pe_not pe_s) (ha σ C H S _ fun v C1 H1 s1 E1 r => ⟨p, r, k _ C1 H1 s1 E1 rfl⟩)
theorem sl_narrow {Γ : Gm} {σ : L2.St} {C : Hp} {i : Nat} {T T' : Ty} (h : Sl Γ σ C) (hi : Γ[i]? = some (some T)) (f : ∀ v, σ[i]? = some (some v) → T.r v C → T'.r v C) : Sl (Γ.set i (some T')) σ C := by
  obtain ⟨v, e, r⟩ := h.2 i T hi
  have hσ : σ.set i (some v) = σ := by
    refine List.ext_getElem? fun j => ?_
    rw [List.getElem?_set]
    split
    · rename_i z
      subst z
      rw [if_pos (List.getElem?_eq_some_iff.mp e).1, e]
    · rfl
  rw [← hσ]
  exact Sl.set i h (f v e r)
/-- a slot that holds a dict: which -/
theorem slot_dict {Γ : Gm} {σ : L2.St} {C : Hp} {i : Nat} {fs : List (Str × Ty)} (h : Sl Γ σ C) (hi : Γ[i]? = some (some (tyD fs))) : ∃ q ks, C q = some (.dK ks) ∧ Kvs fs ks C ∧ Sl (Γ.set i (some (tyP q))) σ C := by
  obtain ⟨v, e, q, o, rfl, hq, ks, rfl, al⟩ := h.2 i _ hi
  refine ⟨q, ks, hq, al, ?_⟩
  have hσ : σ.set i (some (.ref q)) = σ := by
    refine List.ext_getElem? fun j => ?_
    rw [List.getElem?_set]
    split
    · rename_i z
      subst z
      rw [if_pos (List.getElem?_eq_some_iff.mp e).1, e]
    · rfl
  rw [← hσ]
  exact Sl.set i h rfl
def kf (xs : List Str) : List Str := xs.foldl kadd []
theorem kf_snoc (xs : List Str) (x : Str) : kf (xs ++ [x]) = kadd (kf xs) x := by unfold kf; rw [List.foldl_append]; rfl
theorem snocI {α : Type} {P : List α → Prop} (h0 : P []) (h1 : ∀ l x, P l → P (l ++ [x])) (l : List α) : P l := by
  rw [← List.reverse_reverse l]
  induction l.reverse with
  | nil => exact h0
  | cons x l ih => rw [List.reverse_cons]; exact h1 _ _ ih
theorem kf_ok (xs : List Str) : (kf xs).Nodup ∧ (∀ x, x ∈ kf xs ↔ x ∈ xs) ∧ (kf xs).length ≤ xs.length := by
  refine snocI (P := fun xs => (kf xs).Nodup ∧ (∀ x, x ∈ kf xs ↔ x ∈ xs) ∧ (kf xs).length ≤ xs.length) ⟨List.nodup_nil, fun x => Iff.rfl, Nat.le_refl _⟩ (fun xs x ih => ?_) xs
  · obtain ⟨a, b, c⟩ := ih
    rw [kf_snoc]
    refine ⟨kadd_nodup a, fun y => ?_, ?_⟩
    · rw [kadd_mem, b, List.mem_append, List.mem_singleton]
    · have := @kadd_le (kf xs) x
      rw [List.length_append]
      show _ ≤ xs.length + 1
      omega
abbrev flT (ch : Chs) : List Str := ch.flatMap (·.2)
theorem flat_take {ch : Chs} {n : Nat} {r : Str × List Str} (h : ch[n]? = some r) : flT (ch.take (n + 1)) = flT (ch.take n) ++ r.2 := by
  rw [List.take_succ, h]; simp [flT]
theorem flat_take_le {ch : Chs} (n : Nat) : (flT (ch.take n)).length ≤ (flT ch).length := by
  have : flT ch = flT (ch.take n) ++ flT (ch.drop n) := by
    unfold flT
    rw [← List.flatMap_append, List.take_append_drop]
  rw [this, List.length_append]; omega
section
variable {P : Program} {w : World} {K : PySem.W.Frag} {mg : Str → Option Value} {base : Heap}
abbrev kdT (ks : List Str) : List (Str × Ty) := ks.map fun k => (k, tyB true)
theorem sc_chread : FnScope ["self", "found", "texts", "text"] ["self"] (defScope s_changes_readable) := ⟨rfl, rfl, rfl, by decide +kernel, rfl, by decide +kernel, by decide +kernel⟩
abbrev sp_chread (K : PySem.W.Frag) : Sp := spP (fun ch : Chs => (flT ch).length ≤ 1000 ∧ (dst (flT ch)).length < 64) (fun ch => [tyCh K ch]) (fun ch => txT (srt (dst (flT ch))))
theorem f_chread (T : Tx K mg) : C8.Met P w K mg base 1 (CChanges K) "readable" (sp_chread K) [] :=
  mkMet T.cChanges T.mChanges_readable T.d_changes_readable sc_chread (fun _ _ _ _ _ _ us hl => match us, hl with | [_], _ => rfl) (lenP fun _ => rfl) (bodyP fun cdv A outer s H E hr ch B D ⟨h1, h2⟩ fin _ => by
    have hu := hu_of hr
    refine Sj.newD 1 sc_chread.nd fun q => ?_
    refine Sj.forD (fs := vmap txT ch) (xs := ch) (Rx := fun r => txT r.2) rfl PassesOwn.never (fun d => [some (tyO (CChanges K) [("kept", tyP d)]), some (tyP q), none, none]) (fun σ C sl => ?_) (fun B' d ob ks hg hk => ?_) (fun x => gName 2 sc_chread.nd)
      (fun n => [some (tyCh K ch), some (tyP q), none, none]) (fun n => [(q, cD (kdT (kf (flT (ch.take n)))))]) (.k (.k (.d (.d .n)))) (Wc.refl _) (fun B' D' hfin Bk n r hn => ?_) ?_
    · obtain ⟨v, e, p, o, rfl, hp, dx, vs, rfl, al⟩ := sl.2 0 _ rfl
      cases al with
      | cons r t =>
        rename_i pv vs'
        obtain ⟨r1, d, o2, hv, hd, ks, rfl, al2⟩ := r
        refine ⟨d, ks, hd, al2, ?_⟩
        refine Sl.ws (sl_narrow sl (i := 0) rfl (T' := tyO (CChanges K) [("kept", tyP d)]) fun v' e' h' => ?_) (.k (.k (.k (.k .n))))
        rw [e] at e'
        cases e'
        exact ⟨p, _, rfl, hp, dx, _, rfl, .cons ⟨r1, hv⟩ t⟩
    · rw [show (ch.map fun r => txT r.2) = (vmap txT ch).map (·.2) from (vmap_vals txT ch).symm]
      exact Iv.vals (Ev.fld (Lv.core (Ev.v 0 rfl)) T.cChanges T.nChanges_kept) hg hk
    · refine Sj.for_ (xs := r.2) (Rx := tyS) rfl PassesOwn.never (Iv.tup (Ev.v 2 rfl)) (fun x => gName 3 sc_chread.nd) (fun m => [some (tyCh K ch), some (tyP q), none, none]) (fun m => [(q, cD (kdT (kf (flT (ch.take n) ++ r.2.take m))))]) (.k (.k (.d (.d .n)))) (by rw [List.take_zero, List.append_nil]; exact Wc.refl _) (fun B2 _ _ _ m x hm => ?_) ?_
      · have ht : r.2.take (m + 1) = r.2.take m ++ [x] := by rw [List.take_succ, hm]; rfl
        refine Sj.dput 0 hu Ev.bl (Ev.v 1 rfl) rfl (Ev.v 3 rfl) ?_ (Sj.at (.k (.k (.d (.d .n)))) ?_)
        · have a := (kf_ok (flT (ch.take n) ++ r.2.take m)).2.2
          have b := flat_take_le (ch := ch) (n + 1)
          rw [flat_take hn, List.length_append] at b
          rw [List.length_append, List.length_take] at a
          show (kdT _).length < sizeLine
          rw [List.length_map]
          exact small1000 (by omega)
        · rw [ht, ← List.append_assoc, kf_snoc, show kdT (kadd (kf (flT (ch.take n) ++ r.2.take m)) x) = dput (kdT (kf (flT (ch.take n) ++ r.2.take m))) x (tyB true) from (dput_kadd _ _ _).symm]
          exact Wc.refl _
      · rw [List.take_length, ← flat_take hn]
        exact Sj.at (.k (.k (.d (.d .n)))) (Wc.refl _)
    · rw [List.take_length]
      refine Sj.freeze 0 1 rfl rfl ?_
      obtain ⟨k1, k2, k3⟩ := kf_ok (flT ch)
      have hk : (kdT (kf (flT ch))).map (·.1) = kf (flT ch) := by rw [List.map_map]; exact List.map_id _
      have hp : (kf (flT ch)).Perm (dst (flT ch)) := nodup_perm k1 (dst_nodup _) fun x => (k2 x).trans dst_mem.symm
      refine Sj.ret (tupL T.f_tuple (Lv.core (sortD rfl T.f_sorted (Lv.core (Ev.v 1 rfl)) (by rw [List.length_map, hp.length_eq]; exact h2)))) fin (fun v C h => ?_) .n
      rw [hk, srt_congr hp] at h; exact h)
/-! ### tables -/
abbrev Tbl := List (Str × Int)
def tbS (m : Tbl) : Int := (m.map (·.2)).sum
abbrev tbFs (m : Tbl) : List (Str × Ty) := [("weights", tyD (vmap tyI m)), ("whole", tyI (tbS m))]
abbrev tyTb (K : PySem.W.Frag) (m : Tbl) : Ty := tyO (CTable K) (tbFs m)
structure TbIn (m : Tbl) : Prop where
  nd : (m.map (·.1)).Nodup
  len : m.length ≤ 1000
  pos : ∀ p ∈ m, 1 ≤ p.2
theorem sc_isint : FnScope ["value"] ["value"] (defScope s_is_integer) := ⟨rfl, rfl, rfl, by decide +kernel, rfl, by decide +kernel, by decide +kernel⟩
theorem Ev.isInt {X : Cx} {B : Bs} {Γ : Gm} {W : Wl} {a : Expr} {p p2 pos : Pos} {i : Int} (T : Tx X.K X.mg) (h : Ev X B Γ W a (tyI i)) (hg : Gl X "isinstance" := by rfl) (hg2 : Gl X "int" := by rfl) (he : starEach [a, .Name "int" p2] X.env = (false, eval a X.env) :: starEach [.Name "int" p2] X.env := by rfl) (he2 : starEach [.Name "int" p2] X.env = (false, eval (.Name "int" p2) X.env) :: starEach [] X.env := by rfl)
    (hpl : (backTo pos (starEach [.Name "int" p2] X.env)).any (·.1) = false := by rfl) : Ev X B Γ W (.Call (.Name "isinstance" p) [a, .Name "int" p2] [] pos) (tyB true) :=
  isT (t := "int") (T := "int") T.f_isinstance h (fun v C H E r => ty_int E r) (Ev.bltn T.f_int boot_int rfl hg2) (by decide +kernel) hg he he2 hpl
theorem Ev.isBool {X : Cx} {B : Bs} {Γ : Gm} {W : Wl} {a : Expr} {p p2 pos : Pos} {i : Int} (T : Tx X.K X.mg) (h : Ev X B Γ W a (tyI i)) (hg : Gl X "isinstance" := by rfl) (hg2 : Gl X "bool" := by rfl) (he : starEach [a, .Name "bool" p2] X.env = (false, eval a X.env) :: starEach [.Name "bool" p2] X.env := by rfl) (he2 : starEach [.Name "bool" p2] X.env = (false, eval (.Name "bool" p2) X.env) :: starEach [] X.env := by rfl)
    (hpl : (backTo pos (starEach [.Name "bool" p2] X.env)).any (·.1) = false := by rfl) : Ev X B Γ W (.Call (.Name "isinstance" p) [a, .Name "bool" p2] [] pos) (tyB false) :=
  isT (t := "int") (T := "bool") T.f_isinstance h (fun v C H E r => ty_int E r) (Ev.bltn T.f_bool boot_bool rfl hg2) (by decide +kernel) hg he he2 hpl
theorem f_isint (T : Tx K mg) : C8.Cal P w K mg base 1 "_is_integer" (spP (fun _ : Int => True) (fun i => [tyI i]) (fun _ => tyB true)) [] :=
  mkCal T.g_is_integer T.d_is_integer sc_isint (fun _ _ _ _ _ _ us hl => match us, hl with | [_], _ => rfl) (lenP fun _ => rfl) (bodyP fun cdv A outer s H E hr i B D _ fin _ => by
    exact Sj.ret (Ev.andB (Ev.isInt T (Ev.v 0 rfl)) fun _ => Ev.oneB (Ev.notB (Ev.isBool T (Ev.v 0 rfl)))) fin (fun v C h => h) .n)
theorem sc_tbinit : FnScope ["self", "pairs", "weights", "at", "text", "weight"] ["self", "pairs"] (defScope s_table_init) := ⟨rfl, rfl, rfl, by decide +kernel, rfl, by decide +kernel, by decide +kernel⟩
abbrev sp_tbinit (K : PySem.W.Frag) : Sp := spI (CTable K) TbIn (fun m => [tyLst (m.map fun r => tyTup [tyS r.1, tyI r.2])]) (fun m => tbFs m)
theorem f_table (T : Tx K mg) : C8.Mak P w K mg base 2 "Table" (CTable K) (sp_tbinit K) [] :=
  mkMak T.kTable T.gTable T.d_table_init sc_tbinit (fun _ _ _ _ _ _ us hl => match us, hl with | [_, _], _ => rfl) (lenW fun _ => rfl) (bodyW fun cdv A outer s H E hr rows B D p hp fin finN => by
    have hu := hu_of hr
    refine Sj.newD 2 sc_tbinit.nd fun q => ?_
    refine Sj.for_ rfl PassesOwn.never (Iv.enumM T.f_enumerate (Ev.v 1 rfl)) (fun x => gLt rfl (gLc (gName 3 sc_tbinit.nd) (gLc (gLt rfl (gLc (gName 4 sc_tbinit.nd) (gLc (gName 5 sc_tbinit.nd) gL0))) gL0)))
      (fun n => [some (tyP p), none, some (tyP q), none, none, none]) (fun n => [(p, cIns (CTable K) []), (q, cD (vmap tyI (rows.take n)))]) (.k (.d (.k (.d (.d (.d .n)))))) (Wc.refl _) (fun B' _ _ _ n z hn => ?_) ?_
    · obtain ⟨hx, rfl⟩ := zip_at hn
      obtain ⟨r, n⟩ := z
      have hr' : r ∈ rows := List.mem_of_getElem? hx
      have ht : rows.take (n + 1) = rows.take n ++ [r] := by rw [List.take_succ, hx]; rfl
      have hnew : r.1 ∉ (rows.take n).map (·.1) := fun h => by
        have nd := hp.nd
        rw [← List.take_append_drop (n + 1) rows, ht, List.map_append, List.map_append] at nd
        exact (List.nodup_append.mp (List.nodup_append.mp nd).1).2.2 _ h r.1 (by simp) rfl
      have hnew2 : r.1 ∉ (vmap tyI (rows.take n)).map (·.1) := by rw [vmap_keys]; exact hnew
      refine Sj.never (Tv.is (Tv.w (Wv.or (Tv.notD (Tv.val (Ev.call (f_isint T) hr (by decide) r.2 trivial (As.cons (Ev.v 5 rfl) As.nil)))) fun _ => Wv.or (Tv.lt (Ev.v 5 rfl) Ev.int) fun _ => Wv.or1 (Tv.din (Ev.v 4 rfl) (Lv.own 1 (Ev.v 2 rfl) rfl) hu))) ?_) ?_
      · rw [dget_none.mpr hnew2]
        have := hp.pos r hr'
        show (!true || (decide (r.2 < 1) || false)) = false
        rw [decide_eq_false (by omega)]; rfl
      refine Sj.dput 1 hu (Ev.v 5 rfl) (Ev.v 2 rfl) rfl (Ev.v 4 rfl) ?_ ?_
      · have := hp.len
        show (vmap tyI (rows.take n)).length < sizeLine
        unfold vmap
        rw [List.length_map]
        exact small1000 (by rw [List.length_take]; omega)
      · refine Sj.at (.k (.d (.k (.d (.d (.d .n)))))) (.k (.c (fun o C h => ?_) .n))
        have e : vmap tyI (rows.take (n + 1)) = dput (vmap tyI (rows.take n)) r.1 (tyI r.2) := by
          rw [dput_new hnew2, ht]
          unfold vmap
          rw [List.map_append]; rfl
        show (cD (vmap tyI (rows.take (n + 1)))).r o C
        rw [e]; exact h
    · have hlen : rows.zipIdx.length = rows.length := List.length_zipIdx
      rw [hlen, List.take_length]
      refine Sj.freeze 1 2 rfl rfl ?_
      refine Sj.fld 0 (Ev.v 2 rfl) (Ev.v 0 rfl) rfl T.cTable T.nTable_weights [] ?_
      refine Sj.fld 0 (sumVals rfl T.f_sum (Lv.core (Ev.v 2 rfl))) (Ev.v 0 rfl) rfl T.cTable T.nTable_whole ["weights"] ?_
      exact Sj.nil fun σ C H S => finN σ C H S.en rfl)
section
variable {X : Cx} {B : Bs} {Γ : Gm} {W : Wl} {e : Expr} {pos : Pos} {m : Tbl}
theorem Lv.wts (T : Tx X.K X.mg) (h : Ev X B Γ W e (tyTb X.K m)) (hb : attributeBase e "weights" X.env (eval e X.env) = eval e X.env := by rfl) : Lv X B Γ W (.Attribute e "weights" pos) (cD (vmap tyI m)) :=
  Lv.core (Ev.fld (Lv.core h) T.cTable T.nTable_weights rfl hb)
theorem Ev.tbWhole (T : Tx X.K X.mg) (h : Ev X B Γ W e (tyTb X.K m)) (hb : attributeBase e "whole" X.env (eval e X.env) = eval e X.env := by rfl) : Ev X B Γ W (.Attribute e "whole" pos) (tyI (tbS m)) :=
  Ev.fld (Lv.core h) T.cTable T.nTable_whole rfl hb
end
theorem sc_tbtexts : FnScope ["self"] ["self"] (defScope s_table_texts) := ⟨rfl, rfl, rfl, by decide +kernel, rfl, by decide +kernel, by decide +kernel⟩
abbrev sp_tbtexts (K : PySem.W.Frag) : Sp := spP (fun m : Tbl => m.length < 64) (fun m => [tyTb K m]) (fun m => txT (srt (m.map (·.1))))
theorem f_tbtexts (T : Tx K mg) : C8.Met P w K mg base 1 (CTable K) "texts" (sp_tbtexts K) [] :=
  mkMet T.cTable T.mTable_texts T.d_table_texts sc_tbtexts (fun _ _ _ _ _ _ us hl => match us, hl with | [_], _ => rfl) (lenP fun _ => rfl) (bodyP fun cdv A outer s H E hr m B D hp fin _ => by
    refine Sj.ret (tupL T.f_tuple (Lv.core (sortD rfl T.f_sorted (Lv.wts T (Ev.v 0 rfl)) (by unfold vmap; rw [List.length_map]; exact hp)))) fin (fun v C h => ?_) .n
    rw [vmap_keys] at h; exact h)
def tbW (m : Tbl) (t : Str) : Int := (dget m t).getD 0
theorem tbW_ty (m : Tbl) (t : Str) : (dget (vmap tyI m) t).getD (tyI 0) = tyI (tbW m t) := by
  unfold tbW
  rw [dget_vmap]
  cases dget m t <;> rfl
theorem sc_tbwof : FnScope ["self", "text"] ["self", "text"] (defScope s_table_weight_of) := ⟨rfl, rfl, rfl, by decide +kernel, rfl, by decide +kernel, by decide +kernel⟩
abbrev sp_tbwof (K : PySem.W.Frag) : Sp := spP (fun _ : Tbl × Str => True) (fun i => [tyTb K i.1, tyS i.2]) (fun i => tyI (tbW i.1 i.2))
theorem f_tbwof (T : Tx K mg) : C8.Met P w K mg base 1 (CTable K) "weight_of" (sp_tbwof K) [] :=
  mkMet T.cTable T.mTable_weight_of T.d_table_weight_of sc_tbwof (fun _ _ _ _ _ _ us hl => match us, hl with | [_, _], _ => rfl) (lenP fun _ => rfl) (bodyP fun cdv A outer s H E hr i B D _ fin _ => by
    exact Sj.ret (dget2E (Lv.wts T (Ev.v 0 rfl)) (Ev.v 1 rfl) Ev.int (fun U h => by rw [← h]; exact tbW_ty _ _) (hu_of hr) ⟨rfl, rfl, rfl, rfl⟩) fin (fun v C h => h) .n)
theorem sc_tbshare : FnScope ["self", "text"] ["self", "text"] (defScope s_table_share_of) := ⟨rfl, rfl, rfl, by decide +kernel, rfl, by decide +kernel, by decide +kernel⟩
abbrev sp_tbshare (K : PySem.W.Frag) : Sp := spP (fun i : Tbl × Str => 0 < tbS i.1 ∧ Lb 8000 (tbS i.1)) (fun i => [tyTb K i.1, tyS i.2]) (fun i => tySh (CShare K) (rq (tbW i.1 i.2) (tbS i.1)))
theorem f_tbshare (T : Tx K mg) : C8.Met P w K mg base 4 (CTable K) "share_of" (sp_tbshare K) [] :=
  mkMet T.cTable T.mTable_share_of T.d_table_share_of sc_tbshare (fun _ _ _ _ _ _ us hl => match us, hl with | [_, _], _ => rfl) (lenP fun _ => rfl) (bodyP fun cdv A outer s H E hr i B D hp fin _ => by
    exact Sj.ret (Ev.share T hr (by decide) hp.1 hp.2 (Ev.meth (pl := _) (f_tbwof T) hr (by decide) i trivial (Ev.v 0 rfl) (As.cons (Ev.v 1 rfl) As.nil)) (Ev.tbWhole T (Ev.v 0 rfl))) fin (fun v C h => h) .n)
theorem sc_known : FnScope ["source", "changes", "text"] ["source", "changes"] (defScope s_known) := ⟨rfl, rfl, rfl, by decide +kernel, rfl, by decide +kernel, by decide +kernel⟩
abbrev sp_known (K : PySem.W.Frag) : Sp := spP (fun i : Tbl × Chs => i.1.length < 64 ∧ ∀ t ∈ i.1.map (·.1), t ∈ i.2.map (·.1)) (fun i => [tyTb K i.1, tyCh K i.2]) (fun _ => tyN)
theorem dget_of {α : Type} {m : List (Str × α)} {x : Str} (h : x ∈ m.map (·.1)) : ∃ a, dget m x = some a := by
  cases z : dget m x with
  | none => exact absurd h (dget_none.mp z)
  | some a => exact ⟨a, rfl⟩
theorem f_known (T : Tx K mg) : C8.Cal P w K mg base 2 "known" (sp_known K) [] :=
  mkCal T.gknown T.d_known sc_known (fun _ _ _ _ _ _ us hl => match us, hl with | [_, _], _ => rfl) (lenP fun _ => rfl) (bodyP fun cdv A outer s H E hr i B D hp fin finN => by
    refine Sj.for_ (xs := srt (i.1.map (·.1))) (Rx := tyS) rfl PassesOwn.never (Iv.tup (Ev.meth0 (pl := _) (f_tbtexts T) hr (by decide) i.1 hp.1 (Ev.v 0 rfl))) (fun x => gName 2 sc_known.nd) (fun n => [some (tyTb K i.1), some (tyCh K i.2), none]) (fun _ => []) (.k (.k (.d .n))) .n (fun B' _ _ _ n t hn => ?_) ?_
    · obtain ⟨l, hl⟩ := dget_of (hp.2 t (srt_mem.mp (List.mem_of_getElem? hn)))
      exact Sj.expr (Ev.meth (pl := _) (f_chof T) hr (by decide) (i.2, t, l) hl (Ev.v 1 rfl) (As.cons (Ev.v 2 rfl) As.nil)) (Sj.at (.k (.k (.d .n))) .n)
    · exact Sj.nil fun σ C H S => finN σ C H S.en rfl)
end
end MF
set_option maxHeartbeats 4000000
/-! name = {k: v for ..}, typed. -/
namespace MJ
open PySem PySem.Spec L2
open PyProof.Rows hiding St
section
variable {X : Cx}
theorem ps_setDc {i : Nat} {y : Str} {py : Pos} {kx vx tg iter : Expr} {ifs : List Expr} {scope : Scope} {own : List (Str × Nat)} {pos spos : Pos} {wi : TI} {g : TG} {tt : TT} {tk tv : TE} (hc : X.calm = true) (hN : X.N.Nodup) (hy : X.N[i]? = some y) (hyl : X.env.scope.names.lookup y = some .local)
    (hsw : swapsWith (.DictComp kx vx [⟨tg, iter, ifs, 0⟩] scope pos) (some (.Name y py)) spos.line X.env = pure true) (hi : PI X tg iter wi) (ok : BlkOk X.N X.env.scope scope own)
    (hg : ∀ (s : Shared) (H : Hp) (C : Addr) (cl : List (Str × Addr)) (fp : List Addr), PG (X.blk s H scope (compEnvC scope cl C X.env) fp) tg g) (ht : ∀ (s : Shared) (H : Hp) (C : Addr) (cl : List (Str × Addr)) (fp : List Addr), PTs (X.blk s H scope (compEnvC scope cl C X.env) fp) ifs tt)
    (hk : ∀ (s : Shared) (H : Hp) (C : Addr) (cl : List (Str × Addr)) (fp : List Addr), PE (X.blk s H scope (compEnvC scope cl C X.env) fp) kx tk)
    (he : ∀ (s : Shared) (H : Hp) (C : Addr) (cl : List (Str × Addr)) (fp : List Addr), PE (X.blk s H scope (compEnvC scope cl C X.env) fp) vx tv) (hs : ∀ x, foldedSetIterable iter X.env x = pure x := by intro _; rfl) :
    PS X (.Assign [.Name y py] (.DictComp kx vx [⟨tg, iter, ifs, 0⟩] scope pos) spos) (tAsg (tDc wi g tt tk tv (own.map (·.2))) (L2.gName i)) := by
  refine ⟨fun pins s σ H D I h => ?_⟩
  rw [exec_Assign_Name_used _ _ _ _ hsw]
  refine wpAny_bind (wpAny_standAt (wpAny_bind ?_))
  show wpAny _ X.A (do let _ ← comprehension (.DictComp kx vx [⟨tg, iter, ifs, 0⟩] scope pos) scope X.env (firstIterPos [⟨tg, iter, ifs, 0⟩] pos) newDict false (eval iter X.env) (some (assign (.Name y py) X.env))) _ _ s
  have h : tDc wi g tt tk tv (own.map (·.2)) σ H (fun x H1 => L2.gName i x σ H1 D.nx) := h
  refine wpAny_bind (thn (dc_core (Qf := fun _ s' => SP X pins D .next s') hc hN I hi ok hg ht hk he hs h fun L C s' m H' I' q hn f => ?_) fun _ s' hq => wpAny_pure (wpAny_pure hq))
  show wpAny _ _ (assign (.Name y py) X.env (.ref L)) _ _ _
  refine wpAny_assign_Name (store_ok2 (v := V.ref L) I' hN hy (.inl hyl) rfl (fun s2 I2 ⟨a, sb, ha⟩ => ?_) (.inr hyl))
  obtain ⟨f0, f1, f2, f3, f4, f5⟩ := f
  have haC : C ≠ a := by
    rcases ha with z | z
    · rw [z]; exact f1
    · exact fun e => f4 y a z e.symm
  refine ⟨m, hn.sameBut sb haC, fun h3 sb3 => ?_⟩
  exact ⟨_, H', I2.turned (t' := s2.toks) (fun b o hb e => (sb3.2 b hb).trans e) f0 f1 f3 f4 f5, q⟩
theorem swd_true {kx vx : Expr} {gs : List Comprehension} {scope : Scope} {pos py : Pos} {y : Str} {l : Nat} {env : Env} (hk : env.scope.kind = .function) (hy : env.scope.names.lookup y = some .local) (hl : (py.line == pos.line) = true)
    (ha : (scope.names.any fun (n, k) => n == y && (k == .local || k == .cell)) = false) : swapsWith (.DictComp kx vx gs scope pos) (some (.Name y py)) l env = pure true := by
  have ky : env.kindOf y = some .local := hy
  have hb : env.blockKind = .function := by unfold Env.blockKind; rw [hk]; rfl
  unfold swapsWith
  simp only [hb, ky, ha, Expr.pos, hl]
  rfl
variable {B : Bs} {Γ : Gm} {W : Wl} {tg iter kx vx : Expr} {ifs : List Expr} {pos pos' spos : Pos} {T : Ty} {x : Str} {rest : List Stmt} {D : Ends}
/-- {k: v for k in texts}: the owned dict -/
theorem Sj.setDc {xs : List Str} {is : List Nat} {Tx : Str → List Ty} {scope : Scope} (i : Nat) (own : List (Str × Nat)) (hcalm : X.calm = true) (nd : X.N.Nodup)
    (hi : Iv X B Γ W tg iter (xs.map tyS)) (ok : BlkOk X.N X.env.scope scope own)
    (hg : ∀ x s0 H0 Cc cl fp, Gv (Bk X scope s0 H0 Cc cl fp) tg (tyS x) is (Tx x)) (hv : ∀ i ∈ is, i ∈ own.map (·.2)) (hl : xs.length < sizeLine)
    (hk : ∀ x ∈ xs, ∀ s0 H0 Cc cl fp W', Ev (Bk X scope s0 H0 Cc cl fp) B (setG (wipeG Γ (own.map (·.2))) is (Tx x)) W' kx (tyS x))
    (he : ∀ x ∈ xs, ∀ s0 H0 Cc cl fp W', Ev (Bk X scope s0 H0 Cc cl fp) B (setG (wipeG Γ (own.map (·.2))) is (Tx x)) W' vx T)
    (hr : ∀ q, Sj X B (Γ.set i (some (tyP q))) (W ++ [(q, cD ((MF.kf xs).map fun k => (k, T)))]) rest D) (hy : X.N[i]? = some x := by rfl) (hyl : X.env.scope.names.lookup x = some .local := by rfl)
    (hsw : swapsWith (.DictComp kx vx [⟨tg, iter, [], 0⟩] scope pos) (some (.Name x pos')) spos.line X.env = pure true := by exact swd_true rfl rfl rfl (by decide +kernel)) (hs : ∀ x, foldedSetIterable iter X.env x = pure x := by intro _; rfl) :
    Sj X B Γ W (.Assign [.Name x pos'] (.DictComp kx vx [⟨tg, iter, [], 0⟩] scope pos) spos :: rest) D := fun σ C H S => by
  obtain ⟨wi, pi, qi⟩ := hi
  refine cons_ (ps_setDc (i := i) (own := own) (g := tgA X scope tg) (tt := tYes) (tk := teA X scope kx) (tv := teA X scope vx) hcalm nd hy hyl hsw pi ok (fun s0 H0 Cc cl fp => ⟨fun pins s σ H v u Q I r h => h s0 H0 Cc cl fp pins s u I r⟩) (fun s0 H0 Cc cl fp => pts_nil) (fun s0 H0 Cc cl fp => ⟨fun pins s σ H Q I h => h s0 H0 Cc cl fp pins s I⟩) (fun s0 H0 Cc cl fp => ⟨fun pins s σ H Q I h => h s0 H0 Cc cl fp pins s I⟩) hs) ?_
  refine qi σ C H S _ fun J C1 H1 s1 E1 wk d hd => ?_
  have ln : (xs.map tyS).length = xs.length := List.length_map ..
  refine ⟨fun n m H => m = xs.length - n ∧ n ≤ xs.length ∧ ∃ C, Same C1 C ∧ EntE B C (W ++ [(d, cD ((MF.kf (xs.take n)).map fun k => (k, T)))]) H, ⟨_, rfl, Nat.zero_le _, C1, Same.refl _, by rw [List.take_zero]; exact E1.own hd trivial ⟨[], rfl, .nil⟩⟩, ?_⟩
  rintro n m H2 ⟨rfl, hn, C2, s2, E2⟩
  by_cases hlt : n < xs.length
  · refine .inr ⟨wk.goes n C2 H2 _ (by rw [ln]; exact hlt) s2 E2, fun H => ∃ C, Same C1 C ∧ EntE B C (W ++ [(d, cD ((MF.kf (xs.take (n + 1))).map fun k => (k, T)))]) H, fun H' h => ⟨xs.length - (n + 1), by omega, rfl, hlt, h⟩, fun v H3 y => ?_⟩
    have hx : xs[n]? = some xs[n] := by rw [List.getElem?_eq_getElem hlt]
    generalize hxe : xs[n] = z at hx
    have hm : z ∈ xs := List.mem_of_getElem? hx
    have ht : xs.take (n + 1) = xs.take n ++ [z] := by rw [List.take_succ, hx]; rfl
    obtain ⟨C3, s3, E3, rv⟩ := wk.yields n C2 H2 _ v H3 (tyS z) (by rw [List.getElem?_map, hx]; rfl) s2 E2 y
    intro s0 H0 Cc cl fp
    obtain ⟨g, pg, qg⟩ := hg z s0 H0 Cc cl fp
    intro pins s u I ru
    refine pg.run pins s _ H3 v u _ I ru (qg B _ _ C3 H3 v _ E3 rv fun ws al => ?_)
    refine ⟨by rw [wipe_setS hv, wipe_wipe fun _ h => h], ?_⟩
    unfold tYes
    dsimp only
    rw [if_pos rfl]
    intro s0 H0 Cc cl fp
    have S3 : Stt B (setG (wipeG Γ (own.map (·.2))) is (Tx z)) (W ++ [(d, cD ((MF.kf (xs.take n)).map fun k => (k, T)))]) (setS (wipe σ (own.map (·.2))) is ws) C3 H3 := ⟨sl_set al (sl_wipe (S.sl.mono (s1.trans (s2.trans s3))) _), E3⟩
    refine hk z hm s0 H0 Cc cl fp _ _ C3 H3 S3 _ fun kv C4 H4 s4 E4 r4 => ?_
    intro s0 H0 Cc cl fp
    refine he z hm s0 H0 Cc cl fp _ _ C4 H4 (S3.go s4 E4) _ fun vv C5 H5 s5 E5 r5 => ?_
    obtain ⟨o, ho, _, ks, eo, al'⟩ := E5.look (app_last W _)
    subst eo
    refine ⟨ks, Sum.inr z, r4, ho, ?_, C5, s2.trans (s3.trans (s4.trans s5)), ?_⟩
    · have := (MF.kf_ok (xs.take n)).2.2
      rw [List.length_take] at this
      rw [← kvs_len al', List.length_map]; omega
    · have := E5.put (K' := cD ((MF.kf (xs.take (n + 1))).map fun k => (k, T))) (o' := .dK (putK ks (Sum.inr z) vv)) (app_last W _) trivial ⟨_, rfl, by
        rw [ht, MF.kf_snoc, ← dput_kadd]
        exact kvs_put al' z r5⟩
      rwa [app_set] at this
  · have e : n = xs.length := by omega
    subst e
    rw [List.take_length] at E2
    refine .inl ⟨by have := wk.stops C2 H2 _ s2 E2; rwa [ln] at this, hr d _ C2 H2 ⟨Sl.set i (S.sl.mono (s1.trans s2)) rfl, E2⟩⟩
end
end MJ
set_option maxHeartbeats 4000000
/-! defs: markings. -/
namespace MF
open PySem PySem.Spec L2 MT MJ
open PyProof.Rows hiding St
abbrev En := Int × Str × List Str
abbrev enY (e : En) : Ty := tyTup [tyI e.1, tyS e.2.1, txT e.2.2]
def mkS (es : List En) : Int := (es.map (·.1)).sum
abbrev mkFs (es : List En) : List (Str × Ty) := [("entries", tyTup (es.map enY)), ("whole", tyI (mkS es))]
abbrev tyMk (K : PySem.W.Frag) (es : List En) : Ty := tyO (CMarking K) (mkFs es)
def mkF (es : List En) : List En := es.map fun e => (e.1, e.2.1, srt e.2.2)
structure MkIn (es : List En) : Prop where
  len : es.length ≤ 1000
  pos : ∀ e ∈ es, 1 ≤ e.1
  each : ∀ e ∈ es, e.2.2.length < 64
section
variable {X : Cx} {B : Bs} {Γ : Gm} {W : Wl} {a b e : Expr} {p pos : Pos} {z : Str} {l : List Str}
theorem sortSS (hm : X.mg "sorted" = none) (h : Ev X B Γ W e (tySeq (l.map tyS))) (hl : l.length < 64) (hg : Gl X "sorted" := by rfl) (he : starEach [e] X.env = (false, eval e X.env) :: starEach [] X.env := by rfl) (hpl : (backTo pos (starEach [] X.env)).any (·.1) = false := by rfl) :
    Ev X B Γ W (.Call (.Name "sorted" p) [e] [] pos) (tyLst ((srt l).map tyS)) := by
  have := sortS (g := fun x => x) hm h hl hg he hpl (p := p)
  rwa [List.map_id'] at this
theorem EinT (ha : Ev X B Γ W a (tyS z)) (hb : Ev X B Γ W b (txT l)) (hm : behindInMarks .In b = false := by with_unfolding_all rfl) : Ev X B Γ W (.Compare a [.In] [b] pos) (tyB (decide (z ∈ l))) := by
  have := EinS (g := fun x => x) (pos := pos) ha (Lv.core hb) (scalT (xs := l) fun x => V.str x) hm
  rwa [List.map_id'] at this
theorem TinT (ha : Ev X B Γ W a (tyS z)) (hb : Ev X B Γ W b (txT l)) (hm : behindInMarks .In b = false := by with_unfolding_all rfl) : Tv X B Γ W (.Compare a [.In] [b] pos) (· = decide (z ∈ l)) := by
  have := TinS (g := fun x => x) (pos := pos) ha (Lv.core hb) (scalT (xs := l) fun x => V.str x) hm
  rwa [List.map_id'] at this
theorem TinL (ha : Ev X B Γ W a (tyS z)) (hb : Lv X B Γ W b (cLst (l.map tyS))) (hm : behindInMarks .In b = false := by with_unfolding_all rfl) : Tv X B Γ W (.Compare a [.In] [b] pos) (· = decide (z ∈ l)) := by
  have := TinS (g := fun x => x) (pos := pos) ha hb (scalL (xs := l) fun x => V.str x) hm
  rwa [List.map_id'] at this
theorem TnotT (ha : Ev X B Γ W a (tyS z)) (hb : Ev X B Γ W b (txT l)) (hm : behindInMarks .NotIn b = false := by with_unfolding_all rfl) : Tv X B Γ W (.Compare a [.NotIn] [b] pos) (· = !decide (z ∈ l)) := by
  have := TnotS (g := fun x => x) (pos := pos) ha (Lv.core hb) (scalT (xs := l) fun x => V.str x) hm
  rwa [List.map_id'] at this
theorem TnotL (ha : Ev X B Γ W a (tyS z)) (hb : Lv X B Γ W b (cLst (l.map tyS))) (hm : behindInMarks .NotIn b = false := by with_unfolding_all rfl) : Tv X B Γ W (.Compare a [.NotIn] [b] pos) (· = !decide (z ∈ l)) := by
  have := TnotS (g := fun x => x) (pos := pos) ha hb (scalL (xs := l) fun x => V.str x) hm
  rwa [List.map_id'] at this
variable {es : List En}
theorem Ev.entries (T : Tx X.K X.mg) (h : Ev X B Γ W e (tyMk X.K es)) (hb : attributeBase e "entries" X.env (eval e X.env) = eval e X.env := by rfl) : Ev X B Γ W (.Attribute e "entries" pos) (tyTup (es.map enY)) := Ev.fld (Lv.core h) T.cMarking T.nMarking_entries rfl hb
theorem Ev.mkWhole (T : Tx X.K X.mg) (h : Ev X B Γ W e (tyMk X.K es)) (hb : attributeBase e "whole" X.env (eval e X.env) = eval e X.env := by rfl) : Ev X B Γ W (.Attribute e "whole" pos) (tyI (mkS es)) := Ev.fld (Lv.core h) T.cMarking T.nMarking_whole rfl hb
end
section
variable {P : Program} {w : World} {K : PySem.W.Frag} {mg : Str → Option Value} {base : Heap}
theorem mkS_take {es : List En} {n : Nat} {e : En} (h : es[n]? = some e) : mkS (es.take (n + 1)) = mkS (es.take n) + e.1 := by
  unfold mkS
  rw [List.take_succ, h, List.map_append, List.sum_append]; simp
theorem sc_mkinit : FnScope ["self", "entries", "kept", "whole", "at", "weight", "text", "accused"] ["self", "entries"] (defScope s_marking_init) := ⟨rfl, rfl, rfl, by decide +kernel, rfl, by decide +kernel, by decide +kernel⟩
abbrev enIn (e : En) : Ty := tyTup [tyI e.1, tyS e.2.1, tySeq (e.2.2.map tyS)]
abbrev sp_mkinit (K : PySem.W.Frag) : Sp := spI (CMarking K) MkIn (fun es => [tyLst (es.map enIn)]) (fun es => mkFs (mkF es))
theorem mkS_F (es : List En) : mkS (mkF es) = mkS es := by unfold mkS mkF; rw [List.map_map]; rfl
theorem f_marking (T : Tx K mg) : C8.Mak P w K mg base 1 "Marking" (CMarking K) (sp_mkinit K) [] :=
  mkMak T.kMarking T.gMarking T.d_marking_init sc_mkinit (fun _ _ _ _ _ _ us hl => match us, hl with | [_, _], _ => rfl) (lenW fun _ => rfl) (bodyW fun cdv A outer s H E hr es B D p hp fin finN => by
    refine Sj.newL 2 sc_mkinit.nd fun q => ?_
    refine Sj.set 3 sc_mkinit.nd Ev.int ?_
    refine Sj.for_ rfl PassesOwn.never (Iv.enumM T.f_enumerate (Ev.v 1 rfl)) (fun x => gLt rfl (gLc (gName 4 sc_mkinit.nd) (gLc (gLt rfl (gLc (gName 5 sc_mkinit.nd) (gLc (gName 6 sc_mkinit.nd) (gLc (gName 7 sc_mkinit.nd) gL0)))) gL0)))
      (fun n => [some (tyP p), none, some (tyP q), some (tyI (mkS (es.take n))), none, none, none, none]) (fun n => [(p, cIns (CMarking K) []), (q, cLst ((mkF (es.take n)).map enY))]) (.k (.d (.k (.k (.d (.d (.d (.d .n)))))))) (Wc.refl _) (fun B' _ _ _ n z hn => ?_) ?_
    · obtain ⟨hx, rfl⟩ := zip_at hn
      obtain ⟨r, n⟩ := z
      have hr' : r ∈ es := List.mem_of_getElem? hx
      refine Sj.never (Tv.is (Tv.w (Wv.or (Tv.notD (Tv.val (Ev.isInt T (Ev.v 5 rfl)))) fun _ => Wv.or (Tv.val (Ev.isBool T (Ev.v 5 rfl))) fun _ => Wv.or1 (Tv.lt (Ev.v 5 rfl) Ev.int))) ?_) ?_
      · have := hp.pos r hr'
        show (!true || (false || decide (r.1 < 1))) = false
        rw [decide_eq_false (by omega)]; rfl
      refine Sj.append 1 (Ev.v 2 rfl) rfl (Ev.tup (As.cons (Ev.v 5 rfl) (As.cons (Ev.v 6 rfl) (As.cons (tupL T.f_tuple (Lv.core (sortSS T.f_sorted (Ev.v 7 rfl) (hp.each r hr')))) As.nil)))) ?_ ?_
      · have := hp.len
        show ((mkF (es.take n)).map enY).length < sizeLine
        unfold mkF
        rw [List.length_map, List.length_map]
        exact small1000 (by rw [List.length_take]; omega)
      refine Sj.augI 3 sc_mkinit.nd rfl (Ev.v 5 rfl) (Sj.at (.k (.d (.k (.c (fun v C h => ?_) (.d (.d (.d (.d .n)))))))) (.k (.c (fun o C h => ?_) .n)))
      · show v = V.int (mkS (es.take (n + 1)))
        rw [mkS_take hx]; exact h
      · have e : (mkF (es.take (n + 1))).map enY = (mkF (es.take n)).map enY ++ [enY (r.1, r.2.1, srt r.2.2)] := by
          unfold mkF
          rw [List.take_succ, hx, List.map_append, List.map_append]; rfl
        show (cLst ((mkF (es.take (n + 1))).map enY)).r o C
        rw [e]; exact h
    · have hlen : es.zipIdx.length = es.length := List.length_zipIdx
      rw [hlen, List.take_length]
      refine Sj.fld 0 (tupL T.f_tuple (Lv.own 1 (Ev.v 2 rfl) rfl)) (Ev.v 0 rfl) rfl T.cMarking T.nMarking_entries [] ?_
      refine Sj.fld 0 (Ev.v 3 rfl) (Ev.v 0 rfl) rfl T.cMarking T.nMarking_whole ["entries"] ?_
      refine Sj.nil fun σ C H S => finN σ C H (S.en.wc (.c (fun o C h => ?_) .d)) rfl
      show (cIns (CMarking K) [("entries", tyTup ((mkF es).map enY)), ("whole", tyI (mkS (mkF es)))]).r o C
      rw [mkS_F]; exact h)
theorem sc_mktexts : FnScope ["self", "weight", "text", "accused"] ["self"] (defScope s_marking_texts) := ⟨rfl, rfl, rfl, by decide +kernel, rfl, by decide +kernel, by decide +kernel⟩
abbrev mkK (es : List En) : List Str := es.map (·.2.1)
abbrev sp_mktexts (K : PySem.W.Frag) : Sp := spP (fun es : List En => es.length < 64) (fun es => [tyMk K es]) (fun es => txT (srt (dst (mkK es))))
theorem f_mktexts (T : Tx K mg) : C8.Met P w K mg base 1 (CMarking K) "texts" (sp_mktexts K) [] :=
  mkMet T.cMarking T.mMarking_texts T.d_marking_texts sc_mktexts (fun _ _ _ _ _ _ us hl => match us, hl with | [_], _ => rfl) (lenP fun _ => rfl) (bodyP fun cdv A outer s H E hr es B D hp fin _ => by
    have hp : es.length < 64 := hp
    refine Sj.ret (tupL T.f_tuple (Lv.core (sortSet (xs := mkK es) rfl T.f_sorted (setTx (xs := es) (g := fun e => e.2.1) rfl T.f_set (Ev.lc [("weight", 1), ("text", 2), ("accused", 3)] rfl sc_mktexts.nd (Iv.tup (Ev.entries T (Ev.v 0 rfl))) (blkOk_by (N := ["self", "weight", "text", "accused"]) (sc := defScope s_marking_texts) (by decide +kernel))
      (fun x s0 H0 Cc cl fp => gLt rfl (gLc (gName 1 sc_mktexts.nd) (gLc (gName 2 sc_mktexts.nd) (gLc (gName 3 sc_mktexts.nd) gL0)))) (by decide) (small1000 (Nat.le_of_lt (Nat.lt_trans hp (by decide)))) (fun e he s0 H0 Cc cl fp D K => Ev.v 2 rfl)) (Nat.lt_trans hp (by decide))) (by rw [List.length_map]; exact hp)))) fin (fun v C h => h) .n)
theorem sc_accby : FnScope ["accused", "readable", "text"] ["accused", "readable"] (defScope s_accused_by) := ⟨rfl, rfl, rfl, by decide +kernel, rfl, by decide +kernel, by decide +kernel⟩
def accB (a r : List Str) : Bool := r.all fun t => decide (t ∈ a)
abbrev sp_accby : Sp := spP (fun i : List Str × List Str => i.2.length ≤ 1000) (fun i => [txT i.1, txT i.2]) (fun i => tyB (accB i.1 i.2))
theorem f_accby (T : Tx K mg) : C8.Cal P w K mg base 1 "accused_by" sp_accby [] :=
  mkCal T.gaccused_by T.d_accused_by sc_accby (fun _ _ _ _ _ _ us hl => match us, hl with | [_, _], _ => rfl) (lenP fun _ => rfl) (bodyP fun cdv A outer s H E hr i B D hp fin _ => by
    exact Sj.ret (allL rfl T.f_all (Ev.lc [("text", 2)] rfl sc_accby.nd (Iv.tup (Ev.v 1 rfl)) (blkOk_by (N := ["accused", "readable", "text"]) (sc := defScope s_accused_by) (by decide +kernel)) (fun x s0 H0 Cc cl fp => gName 2 sc_accby.nd) (by decide) (small1000 hp)
      (Ro := fun t => tyB (decide (t ∈ i.1))) (fun t ht s0 H0 Cc cl fp D K => EinT (Ev.v 2 rfl) (Ev.v 0 rfl)))) fin (fun v C h => h) .n)
end
end MF
set_option maxHeartbeats 4000000
/-! defs: written_table, judges. -/
namespace MF
open PySem PySem.Spec L2 MT MJ
open PyProof.Rows hiding St
/-! ### the mathematics -/
def wt1 (m : Tbl) (e : En) : Tbl := dput m e.2.1 (tbW m e.2.1 + e.1)
def wtF (es : List En) : Tbl := es.foldl wt1 []
def cm1 (c : Int) (p : Str × Int) : Int := (Int.gcd c p.2 : Nat)
def cmF (m : Tbl) : Int := m.foldl cm1 0
def wtT (es : List En) : Tbl := (srt ((wtF es).map (·.1))).map fun t => (t, tbW (wtF es) t / cmF (wtF es))
theorem dput_len {α : Type} (m : List (Str × α)) (x : Str) (a : α) : (dput m x a).length ≤ m.length + 1 := by
  unfold dput
  split <;> simp
theorem dput_all {α : Type} {P : α → Prop} {m : List (Str × α)} {x : Str} {a : α} (h : ∀ p ∈ m, P p.2) (ha : P a) : ∀ p ∈ dput m x a, P p.2 := by
  intro p hp
  unfold dput at hp
  split at hp
  · obtain ⟨q, hq, e⟩ := List.mem_map.mp hp
    split at e
    · rw [← e]; exact ha
    · rw [← e]; exact h q hq
  · rcases List.mem_append.mp hp with hp | hp
    · exact h p hp
    · have e : p = (x, a) := by simpa using hp
      rw [e]; exact ha
theorem tbW_nn {m : Tbl} (h : ∀ p ∈ m, 0 ≤ p.2) (t : Str) : 0 ≤ tbW m t := by
  unfold tbW
  cases z : dget m t with
  | none => exact Int.le_refl _
  | some a => exact h _ (dget_some_mem z)
structure WtOk (m : Tbl) (n : Nat) : Prop where
  nd : (m.map (·.1)).Nodup
  len : m.length ≤ n
  pos : ∀ p ∈ m, 1 ≤ p.2
theorem wt_ok {es : List En} (hp : ∀ e ∈ es, 1 ≤ e.1) : WtOk (wtF es) es.length := by
  have go : ∀ (es : List En) (m : Tbl) (n : Nat), WtOk m n → (∀ e ∈ es, 1 ≤ e.1) → WtOk (es.foldl wt1 m) (n + es.length) := by
    intro es
    induction es with
    | nil => intro m n h _; exact h
    | cons e es ih =>
      intro m n h hp
      have h1 := hp e List.mem_cons_self
      have := ih (wt1 m e) (n + 1) ⟨dput_nodup h.nd, Nat.le_trans (dput_len _ _ _) (by have := h.len; omega), dput_all h.pos (by have := tbW_nn (m := m) (fun p hp => by have := h.pos p hp; omega) e.2.1; omega)⟩ fun e he => hp e (List.mem_cons_of_mem _ he)
      rw [List.length_cons]
      show WtOk ((es).foldl wt1 (wt1 m e)) _
      rw [show n + (es.length + 1) = n + 1 + es.length by omega]
      exact this
  have := go es [] 0 ⟨List.nodup_nil, Nat.le_refl _, fun p hp => by cases hp⟩ hp
  rwa [Nat.zero_add] at this
theorem cm_dvd : ∀ (m : Tbl) (c : Int), m.foldl cm1 c ∣ c ∧ ∀ p ∈ m, m.foldl cm1 c ∣ p.2
  | [], c => ⟨Int.dvd_refl _, fun p hp => by cases hp⟩
  | q :: m, c => by
    obtain ⟨a, b⟩ := cm_dvd m (cm1 c q)
    refine ⟨Int.dvd_trans a (Int.gcd_dvd_left ..), fun p hp => ?_⟩
    rcases List.mem_cons.mp hp with rfl | hp
    · exact Int.dvd_trans a (Int.gcd_dvd_right ..)
    · exact b p hp
theorem cm_nn : ∀ (m : Tbl) (c : Int), 0 ≤ c → 0 ≤ m.foldl cm1 c
  | [], c, h => h
  | q :: m, c, _ => cm_nn m _ (Int.natCast_nonneg _)
theorem cm_pos {m : Tbl} (h : ∀ p ∈ m, 1 ≤ p.2) {p : Str × Int} (hp : p ∈ m) : 0 < cmF m ∧ cmF m ∣ p.2 := by
  have h1 := (cm_dvd m 0).2 p hp
  refine ⟨?_, h1⟩
  have h2 : 0 ≤ cmF m := cm_nn m 0 (Int.le_refl _)
  rcases Int.lt_or_eq_of_le h2 with h3 | h3
  · exact h3
  · have h1 : cmF m ∣ p.2 := h1
    rw [← h3, Int.zero_dvd] at h1
    have := h p hp
    omega
def aw1 (w : Int) (m : Tbl) (t : Str) : Tbl := dput m t (tbW m t + w)
def aw2 (m : Tbl) (e : En) : Tbl := e.2.2.foldl (aw1 e.1) m
def awF (es : List En) : Tbl := es.foldl aw2 []
def amx (l : List Int) : Int := l.foldl max 0
theorem amx_ok (l : List Int) : amx l ∈ 0 :: l ∧ ∀ y ∈ 0 :: l, y ≤ amx l := by
  have go : ∀ (l : List Int) (a : Int), l.foldl max a ∈ a :: l ∧ ∀ y ∈ a :: l, y ≤ l.foldl max a := by
    intro l
    induction l with
    | nil => intro a; exact ⟨List.mem_cons_self, fun y hy => Int.le_of_eq (by simpa using hy)⟩
    | cons b l ih =>
      intro a
      obtain ⟨h1, h2⟩ := ih (max a b)
      show l.foldl max (max a b) ∈ _ ∧ _
      refine ⟨?_, fun y hy => ?_⟩
      · rcases List.mem_cons.mp h1 with e | h
        · rw [e]
          rcases Int.le_total a b with h | h
          · rw [Int.max_eq_right h]; exact List.mem_cons_of_mem _ List.mem_cons_self
          · rw [Int.max_eq_left h]; exact List.mem_cons_self
        · exact List.mem_cons_of_mem _ (List.mem_cons_of_mem _ h)
      · have hm := h2 (max a b) List.mem_cons_self
        rcases List.mem_cons.mp hy with e | hy
        · rw [e]; exact Int.le_trans (Int.le_max_left a b) hm
        · rcases List.mem_cons.mp hy with e | hy
          · rw [e]; exact Int.le_trans (Int.le_max_right a b) hm
          · exact h2 y (List.mem_cons_of_mem _ hy)
  exact go l 0
def mnL : List Int → Int
  | [] => 0
  | a :: l => l.foldl min a
theorem mnL_ok {l : List Int} (h : l ≠ []) : mnL l ∈ l ∧ ∀ y ∈ l, mnL l ≤ y := by
  cases l with
  | nil => exact absurd rfl h
  | cons a l =>
    show l.foldl min a ∈ a :: l ∧ ∀ y ∈ a :: l, l.foldl min a ≤ y
    clear h
    induction l generalizing a with
    | nil => exact ⟨List.mem_cons_self, fun y hy => Int.le_of_eq (List.mem_singleton.mp hy).symm⟩
    | cons b l ih =>
      obtain ⟨h1, h2⟩ := ih (min a b)
      show l.foldl min (min a b) ∈ _ ∧ _
      refine ⟨?_, fun y hy => ?_⟩
      · rcases List.mem_cons.mp h1 with e | h
        · rw [e]
          rcases Int.le_total a b with h | h
          · rw [Int.min_eq_left h]; exact List.mem_cons_self
          · rw [Int.min_eq_right h]; exact List.mem_cons_of_mem _ List.mem_cons_self
        · exact List.mem_cons_of_mem _ (List.mem_cons_of_mem _ h)
      · have hm := h2 (min a b) List.mem_cons_self
        rcases List.mem_cons.mp hy with e | hy
        · rw [e]; exact Int.le_trans hm (Int.min_le_left a b)
        · rcases List.mem_cons.mp hy with e | hy
          · rw [e]; exact Int.le_trans hm (Int.min_le_right a b)
          · exact h2 y (List.mem_cons_of_mem _ hy)
theorem aw_len (w : Int) : ∀ (l : List Str) (m : Tbl), (l.foldl (aw1 w) m).length ≤ m.length + l.length
  | [], m => Nat.le_refl _
  | t :: l, m => by
    have := aw_len w l (aw1 w m t)
    have h2 := dput_len m t (tbW m t + w)
    show (l.foldl (aw1 w) (aw1 w m t)).length ≤ _
    have h3 : (aw1 w m t).length ≤ m.length + 1 := h2
    rw [List.length_cons]; omega
theorem aw_le {es : List En} (h : ∀ e ∈ es, e.2.2.length < 64) : (awF es).length ≤ 64 * es.length := by
  have go : ∀ (es : List En) (m : Tbl), (∀ e ∈ es, e.2.2.length < 64) → (es.foldl aw2 m).length ≤ m.length + 64 * es.length := by
    intro es
    induction es with
    | nil => intro m _; exact Nat.le_refl _
    | cons e es ih =>
      intro m h
      have h1 := ih (aw2 m e) fun e he => h e (List.mem_cons_of_mem _ he)
      have h2 := aw_len e.1 e.2.2 m
      have h3 := h e List.mem_cons_self
      have h4 : (aw2 m e).length ≤ m.length + e.2.2.length := h2
      show (es.foldl aw2 (aw2 m e)).length ≤ _
      rw [List.length_cons]; omega
  have := go es [] h
  rwa [List.length_nil, Nat.zero_add] at this
/-! ### written_table -/
structure MkOk (es : List En) : Prop where
  len : es.length < 64
  pos : ∀ e ∈ es, 1 ≤ e.1
  each : ∀ e ∈ es, e.2.2.length < 64
  lb : ∀ e ∈ es, Lb 4000 e.1
section
variable {P : Program} {w : World} {K : PySem.W.Frag} {mg : Str → Option Value} {base : Heap}
theorem sc_written : FnScope ["marking", "weights", "weight", "text", "accused", "common"] ["marking"] (defScope s_written_table) := ⟨rfl, rfl, rfl, by decide +kernel, rfl, by decide +kernel, by decide +kernel⟩
theorem fold_take {α β : Type} (f : β → α → β) (b : β) {l : List α} {n : Nat} {x : α} (h : l[n]? = some x) : (l.take (n + 1)).foldl f b = f ((l.take n).foldl f b) x := foldl_take f b h
abbrev sp_written (K : PySem.W.Frag) : Sp := spP (fun es : List En => MkOk es ∧ Lb 4000 (cmF (wtF es))) (fun es => [tyMk K es]) (fun es => tyTb K (wtT es))
theorem f_written (T : Tx K mg) : C8.Cal P w K mg base 4 "written_table" (sp_written K) [] :=
  mkCal T.gwritten_table T.d_written_table sc_written (fun _ _ _ _ _ _ us hl => match us, hl with | [_], _ => rfl) (lenP fun _ => rfl) (bodyP fun cdv A outer s H E hr es B D ⟨hp, hc⟩ fin _ => by
    have hu := hu_of hr
    have hm := wt_ok hp.pos
    have hl := hp.len
    refine Sj.newD 1 sc_written.nd fun q => ?_
    refine Sj.for_ (xs := es) (Rx := enY) rfl PassesOwn.never (Iv.tup (Ev.entries T (Ev.v 0 rfl))) (fun x => gLt rfl (gLc (gName 2 sc_written.nd) (gLc (gName 3 sc_written.nd) (gLc (gName 4 sc_written.nd) gL0))))
      (fun n => [some (tyMk K es), some (tyP q), none, none, none, none]) (fun n => [(q, cD (vmap tyI (wtF (es.take n))))]) (.k (.k (.d (.d (.d (.d .n)))))) (Wc.refl _) (fun B' _ _ _ n e hn => ?_) ?_
    · have ho : WtOk (wtF (es.take n)) (es.take n).length := wt_ok fun e he => hp.pos e (List.mem_of_mem_take he)
      refine Sj.dput 0 hu (Ev.add (dget2E (Lv.own 0 (Ev.v 1 rfl) rfl) (Ev.v 3 rfl) Ev.int (fun U h => by rw [← h]; exact tbW_ty _ _) hu ⟨rfl, rfl, rfl, rfl⟩) (Ev.v 2 rfl)) (Ev.v 1 rfl) rfl (Ev.v 3 rfl) ?_ (Sj.at (.k (.k (.d (.d (.d (.d .n)))))) ?_)
      · have := ho.len
        rw [List.length_take] at this
        show (vmap tyI (wtF (es.take n))).length < sizeLine
        unfold vmap
        rw [List.length_map]
        exact small1000 (by omega)
      · have e1 : wtF (es.take (n + 1)) = dput (wtF (es.take n)) e.2.1 (tbW (wtF (es.take n)) e.2.1 + e.1) := fold_take wt1 [] hn
        rw [e1, ← dput_vmap]
        exact Wc.refl _
    rw [List.take_length]
    refine Sj.freeze 0 1 rfl rfl ?_
    refine Sj.set 5 sc_written.nd Ev.int ?_
    refine Sj.forD (fs := vmap tyI (wtF es)) (xs := wtF es) (Rx := fun p => tyS p.1) rfl PassesOwn.never (fun d => [some (tyMk K es), some (tyP d), none, none, none, none]) (fun σ C sl => ?_) (fun B' d ob ks hg hk => ?_) (fun x => gName 3 sc_written.nd)
      (fun n => [some (tyMk K es), some (tyD (vmap tyI (wtF es))), none, none, none, some (tyI (((wtF es).take n).foldl cm1 0))]) (fun n => []) (.k (.k (.d (.d (.d (.k .n)))))) .n (fun B' D' hfin Bk n p hn => ?_) ?_
    · obtain ⟨d, ks, h1, h2, h3⟩ := slot_dict sl (i := 1) rfl
      exact ⟨d, ks, h1, h2, h3.ws (.k (.k (.d (.d (.d (.d .n))))))⟩
    · have e : ((wtF es).map fun p => tyS p.1) = (vmap tyI (wtF es)).map fun q => tyS q.1 := by unfold vmap; rw [List.map_map]; rfl
      rw [e]
      exact Iv.keys (Ev.v 1 rfl) hg hk
    · have hpm := List.mem_of_getElem? hn
      have hg : dget (vmap tyI (wtF es)) p.1 = some (tyI p.2) := by rw [dget_vmap, dget_mem hm.nd hpm]; rfl
      refine Sj.set 5 sc_written.nd (Ev.call (f_gcd T) hr (by decide) (_, p.2) ⟨cm_nn _ _ (Int.le_refl _), by have := hm.pos p hpm; show 0 ≤ p.2; omega⟩ (As.cons (Ev.v 5 rfl) (As.cons (dgetE (Lv.core (Ev.v 1 rfl)) (Ev.v 3 rfl) hg hu) As.nil))) ?_
      refine Sj.at (.k (.k (.d (.d (.d (.c (fun v C h => ?_) .n)))))) .n
      rw [fold_take cm1 0 hn]; exact h
    rw [List.take_length]
    have hlen : (wtF es).length ≤ es.length := hm.len
    have e1 : (srt ((wtF es).map (·.1))).length = (wtF es).length := by rw [srt_length, List.length_map]
    have hTb : TbIn (wtT es) := by
      refine ⟨?_, ?_, fun p hp' => ?_⟩
      · unfold wtT
        rw [List.map_map]
        have : ((fun x : Str × Int => x.1) ∘ fun t => (t, tbW (wtF es) t / cmF (wtF es))) = id := rfl
        rw [this, List.map_id]
        exact srt_nodup hm.nd
      · unfold wtT
        rw [List.length_map, e1]; omega
      · obtain ⟨t, ht, rfl⟩ := List.mem_map.mp hp'
        obtain ⟨a, ha⟩ := dget_of (srt_mem.mp ht)
        have hmem := dget_some_mem ha
        obtain ⟨c1, c2⟩ := cm_pos hm.pos hmem
        have e2 : tbW (wtF es) t = a := by unfold tbW; rw [ha]; rfl
        show 1 ≤ tbW (wtF es) t / cmF (wtF es)
        rw [e2]
        have := Int.ediv_pos_of_pos_of_dvd (a := a) (b := cmF (wtF es)) (by have := hm.pos _ hmem; omega) (Int.le_of_lt c1) c2
        omega
    refine Sj.ret (Ev.mk (f_table T) hr (by decide) (wtT es) hTb (As.cons (Ev.eq (Ev.lc [("text", 3)] rfl sc_written.nd (Iv.list (sortS (xs := wtF es) (g := fun p => p.1) T.f_sorted (Ev.conv (listD rfl T.f_list (Lv.core (Ev.v 1 rfl))) fun v C h => .inl (by
        have e : ((wtF es).map fun p => tyS p.1) = (vmap tyI (wtF es)).map fun q => tyS q.1 := by unfold vmap; rw [List.map_map]; rfl
        rw [e]; exact h)) (by omega))) (blkOk_by (N := ["marking", "weights", "weight", "text", "accused", "common"]) (sc := defScope s_written_table) (by decide +kernel)) (fun x s0 H0 Cc cl fp => gName 3 sc_written.nd) (by decide) (by show (srt _).length < _; rw [e1]; exact small1000 (by omega))
        (Ro := fun t => tyTup [tyS t, tyI (tbW (wtF es) t / cmF (wtF es))]) (fun t ht s0 H0 Cc cl fp D K => ?_)) ?_) As.nil)) fin (fun v C h => h) .n
    · obtain ⟨a, ha⟩ := dget_of (m := wtF es) (srt_mem.mp ht)
      obtain ⟨c1, c2⟩ := cm_pos hm.pos (dget_some_mem ha)
      have hg : dget (vmap tyI (wtF es)) t = some (tyI (tbW (wtF es) t)) := by unfold tbW; rw [dget_vmap, ha]; rfl
      exact Ev.tup (As.cons (Ev.v 3 rfl) (As.cons (Ev.div (dgetE (Lv.core (Ev.v 1 rfl)) (Ev.v 3 rfl) hg hu) (Ev.v 5 rfl) (wide_div c1 hc (by decide) (by decide))) As.nil))
    · unfold wtT
      rw [List.map_map]; rfl)
end
end MF
set_option maxHeartbeats 4000000
/-! defs: judges. -/
namespace MF
open PySem PySem.Spec L2 MT MJ
open PyProof.Rows hiding St
section
variable {P : Program} {w : World} {K : PySem.W.Frag} {mg : Str → Option Value} {base : Heap}
theorem sc_accw : FnScope ["marking", "found", "weight", "_", "accused", "text"] ["marking"] (defScope s_accused_weights) := ⟨rfl, rfl, rfl, by decide +kernel, rfl, by decide +kernel, by decide +kernel⟩
abbrev sp_accw (K : PySem.W.Frag) : Sp := spP MkOk (fun es => [tyMk K es]) (fun es => tyD (vmap tyI (awF es)))
theorem f_accw (T : Tx K mg) : C8.Cal P w K mg base 1 "_accused_weights" (sp_accw K) [] :=
  mkCal T.g_accused_weights T.d_accused_weights sc_accw (fun _ _ _ _ _ _ us hl => match us, hl with | [_], _ => rfl) (lenP fun _ => rfl) (bodyP fun cdv A outer s H E hr es B D hp fin _ => by
    have hu := hu_of hr
    refine Sj.newD 1 sc_accw.nd fun q => ?_
    refine Sj.for_ (xs := es) (Rx := enY) rfl PassesOwn.never (Iv.tup (Ev.entries T (Ev.v 0 rfl))) (fun x => gLt rfl (gLc (gName 2 sc_accw.nd) (gLc (gName 3 sc_accw.nd) (gLc (gName 4 sc_accw.nd) gL0))))
      (fun n => [some (tyMk K es), some (tyP q), none, none, none, none]) (fun n => [(q, cD (vmap tyI (awF (es.take n))))]) (.k (.k (.d (.d (.d (.d .n)))))) (Wc.refl _) (fun B' _ _ _ n e hn => ?_) ?_
    · have he := hp.each e (List.mem_of_getElem? hn)
      have hb : (awF (es.take n)).length ≤ 64 * (es.take n).length := aw_le fun e he => hp.each e (List.mem_of_mem_take he)
      have e1 : awF (es.take (n + 1)) = e.2.2.foldl (aw1 e.1) (awF (es.take n)) := foldl_take aw2 [] hn
      rw [e1]
      refine Sj.for_ (xs := e.2.2) (Rx := tyS) rfl PassesOwn.never (Iv.tup (Ev.v 4 rfl)) (fun x => gName 5 sc_accw.nd)
        (fun m => [some (tyMk K es), some (tyP q), some (tyI e.1), none, none, none]) (fun m => [(q, cD (vmap tyI ((e.2.2.take m).foldl (aw1 e.1) (awF (es.take n)))))]) (.k (.k (.k (.d (.d (.d .n)))))) (Wc.refl _) (fun B2 _ _ _ m t hm => ?_) ?_
      · refine Sj.dput 0 hu (Ev.add (dget2E (Lv.own 0 (Ev.v 1 rfl) rfl) (Ev.v 5 rfl) Ev.int (fun U h => by rw [← h]; exact tbW_ty _ _) hu ⟨rfl, rfl, rfl, rfl⟩) (Ev.v 2 rfl)) (Ev.v 1 rfl) rfl (Ev.v 5 rfl) ?_ (Sj.at (.k (.k (.k (.d (.d (.d .n)))))) ?_)
        · have h1 := aw_len e.1 (e.2.2.take m) (awF (es.take n))
          have hl := hp.len
          rw [List.length_take] at h1 hb
          show (vmap tyI _).length < sizeLine
          unfold vmap
          rw [List.length_map]
          exact Nat.lt_of_le_of_lt (show _ ≤ 64 * 64 + 64 by omega) (by decide)
        · rw [foldl_take (aw1 e.1) (awF (es.take n)) hm]
          show Wc _ [(q, cD (vmap tyI (dput ((e.2.2.take m).foldl (aw1 e.1) (awF (es.take n))) t (tbW ((e.2.2.take m).foldl (aw1 e.1) (awF (es.take n))) t + e.1))))]
          rw [← dput_vmap]
          exact Wc.refl _
      · rw [List.take_length]
        exact Sj.at (.k (.k (.d (.d (.d (.d .n)))))) (Wc.refl _)
    rw [List.take_length]
    exact Sj.freeze 0 1 rfl rfl (Sj.ret (Ev.v 1 rfl) fin (fun v C h => h) .n))
theorem sc_accmost : FnScope ["marking"] ["marking"] (defScope s_accused_most) := ⟨rfl, rfl, rfl, by decide +kernel, rfl, by decide +kernel, by decide +kernel⟩
abbrev sp_accmost (K : PySem.W.Frag) : Sp := spP (fun es : List En => MkOk es ∧ 0 < mkS es ∧ Lb 8000 (mkS es)) (fun es => [tyMk K es]) (fun es => tySh (CShare K) (rq (amx ((awF es).map (·.2))) (mkS es)))
theorem f_accmost (T : Tx K mg) : C8.Cal P w K mg base 4 "accused_most" (sp_accmost K) [] :=
  mkCal T.gaccused_most T.d_accused_most sc_accmost (fun _ _ _ _ _ _ us hl => match us, hl with | [_], _ => rfl) (lenP fun _ => rfl) (bodyP fun cdv A outer s H E hr es B D ⟨hp, h0, hb⟩ fin _ => by
    have hl : (awF es).length ≤ 64 * es.length := aw_le hp.each
    have hl2 := hp.len
    obtain ⟨m1, m2⟩ := amx_ok ((awF es).map (·.2))
    refine Sj.ret (Ev.share T hr (by decide) h0 hb (maxL (xs := 0 :: (awF es).map (·.2)) (g := fun x => x) rfl T.f_max (Ev.eq (Ev.addL (Ev.lst (As.cons Ev.int As.nil)) (listVals rfl T.f_list (Lv.core (Ev.call (f_accw T) hr (by decide) es hp (As.cons (Ev.v 0 rfl) As.nil)))) ?_) ?_) ?_ ?_) (Ev.mkWhole T (Ev.v 0 rfl))) fin (fun v C h => h) .n
    · unfold vmap
      rw [List.length_map, List.length_map]
      show 1 + (awF es).length ≤ sizeLine
      exact Nat.le_of_lt (Nat.lt_of_le_of_lt (show _ ≤ 1 + 64 * 64 by omega) (by decide))
    · show tyLst (tyI 0 :: (vmap tyI (awF es)).map (·.2)) = tyLst (tyI 0 :: ((awF es).map (·.2)).map fun x => tyI x)
      rw [vmap_vals, List.map_map]; rfl
    · rw [List.map_id']; exact m1
    · rw [List.map_id']; exact m2)
def chG (ch : Chs) (t : Str) : List Str := (dget ch t).getD []
structure JdOk (i : Chs × List En) : Prop where
  mo : MkOk i.2
  cl : i.1.length < 64
  sub : ∀ e ∈ i.2, e.2.1 ∈ i.1.map (·.1)
  s0 : 0 < mkS i.2
  sb : Lb 4000 (mkS i.2)
  each : ∀ t, (chG i.1 t).length < 64
  ne : ∀ t ∈ i.1.map (·.1), chG i.1 t ≠ []
theorem chG_of {ch : Chs} {t : Str} (h : t ∈ ch.map (·.1)) : dget ch t = some (chG ch t) := by
  obtain ⟨a, ha⟩ := dget_of h
  unfold chG
  rw [ha]; rfl
theorem sc_check : FnScope ["changes", "marking", "texts", "text"] ["changes", "marking"] (defScope s_check_written) := ⟨rfl, rfl, rfl, by decide +kernel, rfl, by decide +kernel, by decide +kernel⟩
abbrev sp_check (K : PySem.W.Frag) : Sp := spP JdOk (fun i => [tyCh K i.1, tyMk K i.2]) (fun _ => tyN)
theorem f_check (T : Tx K mg) : C8.Cal P w K mg base 2 "_check_written" (sp_check K) [] :=
  mkCal T.g_check_written T.d_check_written sc_check (fun _ _ _ _ _ _ us hl => match us, hl with | [_, _], _ => rfl) (lenP fun _ => rfl) (bodyP fun cdv A outer s H E hr i B D hp fin finN => by
    refine Sj.set 2 sc_check.nd (Ev.meth0 (pl := _) (f_chtexts T) hr (by decide) i.1 hp.cl (Ev.v 0 rfl)) ?_
    refine Sj.for_ (xs := srt (dst (mkK i.2))) (Rx := tyS) rfl PassesOwn.never (Iv.tup (Ev.meth0 (pl := _) (f_mktexts T) hr (by decide) i.2 hp.mo.len (Ev.v 1 rfl))) (fun x => gName 3 sc_check.nd) (fun n => [none, none, some (txT (srt (i.1.map fun z : Str × List Str => z.1))), none]) (fun _ => []) (.d (.d (.k (.d .n)))) .n (fun B' _ _ _ n t hn => ?_) ?_
    · refine Sj.never (Tv.is (TnotT (Ev.v 3 rfl) (Ev.v 2 rfl)) ?_) (Sj.at (.d (.d (.k (.d .n)))) .n)
      have h1 : t ∈ mkK i.2 := dst_mem.mp (srt_mem.mp (List.mem_of_getElem? hn))
      obtain ⟨e, he, rfl⟩ := List.mem_map.mp h1
      rw [decide_eq_true (srt_mem.mpr (hp.sub e he))]; rfl
    · exact Sj.nil fun σ C H S => finN σ C H S.en rfl)
def fsP (ch : Chs) (e : En) : Bool := accB e.2.2 (chG ch e.2.1)
def fsF (ch : Chs) (es : List En) : Int := ((es.filter (fsP ch)).map (·.1)).sum
theorem sc_found : FnScope ["changes", "marking", "weights", "weight", "text", "accused"] ["changes", "marking"] (defScope s_found_share) := ⟨rfl, rfl, rfl, by decide +kernel, rfl, by decide +kernel, by decide +kernel⟩
abbrev sp_found (K : PySem.W.Frag) : Sp := spP JdOk (fun i => [tyCh K i.1, tyMk K i.2]) (fun i => tySh (CShare K) (rq (fsF i.1 i.2) (mkS i.2)))
theorem f_found (T : Tx K mg) : C8.Cal P w K mg base 4 "found_share" (sp_found K) [] :=
  mkCal T.gfound_share T.d_found_share sc_found (fun _ _ _ _ _ _ us hl => match us, hl with | [_, _], _ => rfl) (lenP fun _ => rfl) (bodyP fun cdv A outer s H E hr i B D hp fin _ => by
    have hl := hp.mo.len
    refine Sj.expr (Ev.call (f_check T) hr (by decide) i hp (As.cons (Ev.v 0 rfl) (As.cons (Ev.v 1 rfl) As.nil))) ?_
    refine Sj.setLcF (xs := i.2) (Rx := enY) (Ro := fun e => tyI e.1) (pr := fsP i.1) 2 [("weight", 3), ("text", 4), ("accused", 5)] rfl sc_found.nd (Iv.tup (Ev.entries T (Ev.v 1 rfl))) (blkOk_by (N := ["changes", "marking", "weights", "weight", "text", "accused"]) (sc := defScope s_found_share) (by decide +kernel))
      (fun x s0 H0 Cc cl fp => gLt rfl (gLc (gName 3 sc_found.nd) (gLc (gName 4 sc_found.nd) (gLc (gName 5 sc_found.nd) gL0)))) (by decide) (small1000 (by omega)) (fun e he s0 H0 Cc cl fp D K => Qv.one (Tv.val (Ev.call (f_accby T) hr (by decide) (e.2.2, chG i.1 e.2.1) (by have := hp.each e.2.1; show (chG i.1 e.2.1).length ≤ 1000; omega) (As.cons (Ev.v 5 rfl) (As.cons (Ev.meth (pl := _) (f_chof T) hr (by decide) (i.1, e.2.1, chG i.1 e.2.1) (chG_of (hp.sub e he)) (Ev.v 0 rfl) (As.cons (Ev.v 4 rfl) As.nil)) As.nil)))))
      (fun e he _ s0 H0 Cc cl fp D K => Ev.v 3 rfl) ?_
    exact Sj.ret (Ev.share T hr (by decide) hp.s0 (lb_mono hp.sb (by decide)) (sumL (xs := i.2.filter (fsP i.1)) (g := fun e => e.1) rfl T.f_sum (Ev.v 2 rfl)) (Ev.mkWhole T (Ev.v 1 rfl))) fin (fun v C h => h) .n)
/-! the least found -/
def lf1 (w : Int) (m : Tbl) (r : Str) : Tbl := if r ∈ m.map (·.1) then dput m r (tbW m r + w) else m
def lf2 (t : Str) (m : Tbl) (e : En) : Tbl := if e.2.1 = t then e.2.2.foldl (lf1 e.1) m else m
def lfM (ch : Chs) (es : List En) (t : Str) : Tbl := es.foldl (lf2 t) ((kf (chG ch t)).map fun k => (k, (0 : Int)))
def lfF (ch : Chs) (es : List En) (t : Str) : Int := mnL ((lfM ch es t).map (·.2))
theorem lf1_keys (w : Int) : ∀ (l : List Str) (m : Tbl), (l.foldl (lf1 w) m).map (·.1) = m.map (·.1)
  | [], m => rfl
  | r :: l, m => by
    show (l.foldl (lf1 w) (lf1 w m r)).map (·.1) = _
    rw [lf1_keys w l]
    unfold lf1
    split
    · rename_i h; rw [dput_keys, if_pos h]
    · rfl
theorem lf2_keys (t : Str) : ∀ (es : List En) (m : Tbl), (es.foldl (lf2 t) m).map (·.1) = m.map (·.1)
  | [], m => rfl
  | e :: es, m => by
    show (es.foldl (lf2 t) (lf2 t m e)).map (·.1) = _
    rw [lf2_keys t es]
    unfold lf2
    split
    · exact lf1_keys _ _ _
    · rfl
theorem lf0_keys (ch : Chs) (t : Str) : ((kf (chG ch t)).map fun k => (k, (0 : Int))).map (·.1) = kf (chG ch t) := by rw [List.map_map]; exact List.map_id _
theorem len_keys {α : Type} {m m' : List (Str × α)} (h : m.map (·.1) = m'.map (·.1)) : m.length = m'.length := by have := congrArg List.length h; rwa [List.length_map, List.length_map] at this
theorem sc_least : FnScope ["changes", "marking", "text", "found", "weight", "written", "accused", "read"] ["changes", "marking", "text"] (defScope s_least_found) := ⟨rfl, rfl, rfl, by decide +kernel, rfl, by decide +kernel, by decide +kernel⟩
abbrev sp_least (K : PySem.W.Frag) : Sp := spP (fun i : (Chs × List En) × Str => JdOk i.1 ∧ i.2 ∈ i.1.1.map (·.1)) (fun i => [tyCh K i.1.1, tyMk K i.1.2, tyS i.2]) (fun i => tySh (CShare K) (rq (lfF i.1.1 i.1.2 i.2) (mkS i.1.2)))
theorem f_least (T : Tx K mg) : C8.Cal P w K mg base 4 "_least_found" (sp_least K) [] :=
  mkCal T.g_least_found T.d_least_found sc_least (fun _ _ _ _ _ _ us hl => match us, hl with | [_, _, _], _ => rfl) (lenP fun _ => rfl) (bodyP fun cdv A outer s H E hr ii B D ⟨hp, ht⟩ fin _ => by
    obtain ⟨⟨ch, es⟩, t⟩ := ii
    have hu := hu_of hr
    have hp : JdOk (ch, es) := hp
    have ht : t ∈ ch.map (·.1) := ht
    have hl := hp.mo.len
    have hce := hp.each t
    have hk0 : (kf (chG ch t)).length < 64 := Nat.lt_of_le_of_lt (kf_ok _).2.2 hce
    refine Sj.setDc (xs := chG ch t) (T := tyI 0) 3 [("read", 7)] rfl sc_least.nd (Iv.tup (Ev.meth (pl := _) (f_chof T) hr (by decide) (ch, t, chG ch t) (chG_of ht) (Ev.v 0 rfl) (As.cons (Ev.v 2 rfl) As.nil))) (blkOk_by (N := ["changes", "marking", "text", "found", "weight", "written", "accused", "read"]) (sc := defScope s_least_found) (by decide +kernel)) (fun x s0 H0 Cc cl fp => gName 7 sc_least.nd) (by decide) (small1000 (by have : (chG ch t).length < 64 := hce; omega))
      (fun x hx s0 H0 Cc cl fp W' => Ev.v 7 rfl) (fun x hx s0 H0 Cc cl fp W' => Ev.int) fun q => ?_
    have e0 : ((kf (chG ch t)).map fun k => (k, tyI 0)) = vmap tyI ((kf (chG ch t)).map fun k => (k, (0 : Int))) := by unfold vmap; rw [List.map_map]; rfl
    rw [e0]
    refine Sj.for_ (xs := es) (Rx := enY) rfl PassesOwn.never (Iv.tup (Ev.entries T (Ev.v 1 rfl))) (fun x => gLt rfl (gLc (gName 4 sc_least.nd) (gLc (gName 5 sc_least.nd) (gLc (gName 6 sc_least.nd) gL0))))
      (fun n => [none, some (tyMk K es), some (tyS t), some (tyP q), none, none, none, none]) (fun n => [(q, cD (vmap tyI ((es.take n).foldl (lf2 t) ((kf (chG ch t)).map fun k => (k, (0 : Int))))))]) (.d (.k (.k (.k (.d (.d (.d (.d .n)))))))) (Wc.refl _) (fun B' _ _ _ n e hn => ?_) ?_
    · rw [foldl_take (lf2 t) _ hn]
      generalize hm0 : (es.take n).foldl (lf2 t) ((kf (chG ch t)).map fun k => (k, (0 : Int))) = m0
      have hlen : m0.length < 64 := by
        rw [← hm0, len_keys (lf2_keys t (es.take n) _), List.length_map]; exact hk0
      refine Sj.if_ (Tv.eqS (Ev.v 5 rfl) (Ev.v 2 rfl)) (fun h => ?_) (fun h => ?_)
      · have h : e.2.1 = t := of_decide_eq_true h.symm
        refine Sj.for_ (xs := e.2.2) (Rx := tyS) rfl PassesOwn.never (Iv.tup (Ev.v 6 rfl)) (fun x => gName 7 sc_least.nd)
          (fun k => [none, some (tyMk K es), some (tyS t), some (tyP q), some (tyI e.1), none, none, none]) (fun k => [(q, cD (vmap tyI ((e.2.2.take k).foldl (lf1 e.1) m0)))]) (.d (.k (.k (.k (.k (.d (.d (.d .n)))))))) (Wc.refl _) (fun B2 _ _ _ k r hk => ?_) ?_
        · rw [foldl_take (lf1 e.1) m0 hk]
          generalize hm1 : (e.2.2.take k).foldl (lf1 e.1) m0 = m1
          have hlen1 : m1.length < 64 := by rw [← hm1, len_keys (lf1_keys _ _ m0)]; exact hlen
          refine Sj.if_ (Tv.din (Ev.v 7 rfl) (Lv.own 0 (Ev.v 3 rfl) rfl) hu) (fun h => ?_) (fun h => ?_)
          · have hk1 : r ∈ m1.map (·.1) := by
              rw [dget_vmap, Option.isSome_map] at h
              cases z : dget m1 r with
              | none => rw [z] at h; cases h
              | some a => exact List.mem_map.mpr ⟨_, dget_some_mem z, rfl⟩
            have hg : dget (vmap tyI m1) r = some (tyI (tbW m1 r)) := by
              obtain ⟨a, ha⟩ := dget_of hk1
              unfold tbW
              rw [dget_vmap, ha]; rfl
            refine Sj.dput 0 hu (Ev.add (dgetE (Lv.own 0 (Ev.v 3 rfl) rfl) (Ev.v 7 rfl) hg hu) (Ev.v 4 rfl)) (Ev.v 3 rfl) rfl (Ev.v 7 rfl) ?_ (Sj.go (Sj.at (.d (.k (.k (.k (.k (.d (.d (.d .n)))))))) ?_) rfl)
            · show (vmap tyI m1).length < sizeLine
              unfold vmap
              rw [List.length_map]
              exact small1000 (by omega)
            · unfold lf1
              rw [if_pos hk1, ← dput_vmap]
              exact Wc.refl _
          · have hk1 : r ∉ m1.map (·.1) := fun z => by
              obtain ⟨a, ha⟩ := dget_of z
              rw [dget_vmap, ha] at h; cases h
            refine Sj.go (Sj.at (.d (.k (.k (.k (.k (.d (.d (.d .n)))))))) ?_) rfl
            unfold lf1
            rw [if_neg hk1]
            exact Wc.refl _
        · rw [List.take_length]
          refine Sj.go (Sj.at (.d (.k (.k (.k (.d (.d (.d (.d .n)))))))) ?_) rfl
          unfold lf2
          rw [if_pos h]
          exact Wc.refl _
      · have h : ¬ e.2.1 = t := of_decide_eq_false h.symm
        refine Sj.go (Sj.at (.d (.k (.k (.k (.d (.d (.d (.d .n)))))))) ?_) rfl
        unfold lf2
        rw [if_neg h]
        exact Wc.refl _
    rw [List.take_length]
    have hne : (lfM ch es t).map (·.2) ≠ [] := fun z => by
      have h1 : (lfM ch es t).length = 0 := by have := congrArg List.length z; rwa [List.length_map] at this
      have h2 : (lfM ch es t).length = ((kf (chG ch t)).map fun k => (k, (0 : Int))).length := len_keys (lf2_keys t es _)
      rw [List.length_map] at h2
      have h3 := hp.ne t ht
      cases z2 : chG ch t with
      | nil => exact h3 z2
      | cons a l =>
        have : a ∈ kf (chG ch t) := (kf_ok _).2.1 a |>.mpr (by rw [z2]; exact List.mem_cons_self)
        have := List.length_pos_of_mem this
        omega
    obtain ⟨m1, m2⟩ := mnL_ok hne
    refine Sj.ret (Ev.share T hr (by decide) hp.s0 (lb_mono hp.sb (by decide)) (minL (xs := (lfM ch es t).map (·.2)) (g := fun x => x) (m := lfF ch es t) rfl T.f_min (Ev.eq (listVals rfl T.f_list (Lv.own 0 (Ev.v 3 rfl) rfl)) ?_) ?_ ?_) (Ev.mkWhole T (Ev.v 1 rfl))) fin (fun v C h => h) .d
    · show tyLst ((vmap tyI (lfM ch es t)).map (·.2)) = _
      rw [vmap_vals, List.map_map]; rfl
    · rw [List.map_id']; exact m1
    · rw [List.map_id']; exact m2)
/-! blind_share -/
abbrev bdL (i : Chs × List En) : List Rat := (srt (dst (mkK i.2))).map fun t => rq (lfF i.1 i.2 t) (mkS i.2)
structure BdOk (i : Chs × List En) : Prop where
  jd : JdOk i
  sm : ∀ q ∈ bdL i, Sm q
  ps : ∀ n, Sm (rs ((bdL i).take n))
theorem sc_blind : FnScope ["changes", "marking", "text"] ["changes", "marking"] (defScope s_blind_share) := ⟨rfl, rfl, rfl, by decide +kernel, rfl, by decide +kernel, by decide +kernel⟩
abbrev sp_blind (K : PySem.W.Frag) : Sp := spP BdOk (fun i => [tyCh K i.1, tyMk K i.2]) (fun i => tySh (CShare K) (rs (bdL i)))
theorem f_blind (T : Tx K mg) : C8.Cal P w K mg base 6 "blind_share" (sp_blind K) [] :=
  mkCal T.gblind_share T.d_blind_share sc_blind (fun _ _ _ _ _ _ us hl => match us, hl with | [_, _], _ => rfl) (lenP fun _ => rfl) (bodyP fun cdv A outer s H E hr i B D hp fin _ => by
    have hl := hp.jd.mo.len
    refine Sj.expr (Ev.call (f_check T) hr (by decide) i hp.jd (As.cons (Ev.v 0 rfl) (As.cons (Ev.v 1 rfl) As.nil))) ?_
    have hls : (srt (dst (mkK i.2))).length ≤ 1000 := by
      rw [srt_length]
      have := dst_le (mkK i.2)
      rw [List.length_map] at this
      omega
    refine Sj.ret (Ev.call (f_sumof T) hr (by decide) (bdL i) ⟨hp.sm, hp.ps⟩ (As.cons (Ev.eq (Ev.lc [("text", 2)] rfl sc_blind.nd (Iv.tup (Ev.meth0 (pl := _) (f_mktexts T) hr (by decide) i.2 hl (Ev.v 1 rfl))) (blkOk_by (N := ["changes", "marking", "text"]) (sc := defScope s_blind_share) (by decide +kernel)) (fun x s0 H0 Cc cl fp => gName 2 sc_blind.nd) (by decide) (small1000 hls)
      (Ro := fun t => tySh (CShare K) (rq (lfF i.1 i.2 t) (mkS i.2))) (fun t ht s0 H0 Cc cl fp D K => Ev.call (f_least T) hr (by decide) (i, t) ⟨hp.jd, ?_⟩ (As.cons (Ev.v 0 rfl) (As.cons (Ev.v 1 rfl) (As.cons (Ev.v 2 rfl) As.nil))))) ?_) As.nil)) fin (fun v C h => h) .n
    · obtain ⟨e, he, rfl⟩ := List.mem_map.mp (dst_mem.mp (srt_mem.mp ht))
      exact hp.jd.sub e he
    · unfold bdL
      rw [List.map_map]; rfl)
end
end MF
set_option maxHeartbeats 4000000
/-! Typed rules for a dict of owned lists; loops with a state that is told by a property. -/
namespace MJ
open PySem PySem.Spec L2
open PyProof.Rows hiding St
section
variable {X : Cx} {B : Bs} {Γ Γ' : Gm} {W W' : Wl} {a b c e o tg iter value key place : Expr} {es tgs ifs : List Expr} {pos pos' apos p spos : Pos} {R Ra Rb T : Ty} {Ts Us : List Ty} {K : Con} {x f m : Str} {fs : List (Str × Ty)} {C Cl : Addr} {i j : Int}
variable {st : Stmt} {rest A E body : List Stmt} {D : Ends} {N : List Str}
theorem Sj.forE {α ι : Type} {xs : List α} {Rx : α → Ty} {is : List Nat} {Tx : α → List Ty} (hcalm : X.calm = true) (hp : PassesOwn (model X.prog X.w) X.A X.env X.xe) (hi : Iv X B Γ W tg iter (xs.map Rx)) (hg : ∀ x, Gv X tg (Rx x) is (Tx x)) (I : Nat → ι → Prop) (G : Nat → ι → Gm) (WW : Nat → ι → Wl)
    (a0 : ι) (i0 : I 0 a0) (w0 : Ws Γ (G 0 a0)) (v0 : Wc W (WW 0 a0))
    (hb : ∀ B', (∀ Wf R, Fin B Wf R D → Fin B' Wf R D) → ∀ n x, xs[n]? = some x → ∀ a, I n a → Sj X B' (setG (G n a) is (Tx x)) (WW n a) body (Dl D (fun σ H => ∃ a', I (n + 1) a' ∧ At B' (G (n + 1) a') (WW (n + 1) a') σ H) (sB X rest D)))
    (hr : ∀ a, I xs.length a → Sj X B (G xs.length a) (WW xs.length a) rest D) (hs : ∀ x, foldedSetIterable iter X.env x = pure x := by intro _; rfl) : Sj X B Γ W (.For tg iter body [] spos :: rest) D := fun σ C H S => by
  obtain ⟨wi, pi, qi⟩ := hi
  refine cons_ (ps_for (g := sG X tg) hp hcalm pi ⟨fun pins s σ H v u Q I r h => h pins s u I r⟩ pb_s hs) ?_
  refine qi σ C H S _ fun J C1 H1 s1 E1 wk => ?_
  have S1 := S.go s1 E1
  have w : Walk J xs.length (fun H => ∃ C W', Same C1 C ∧ EntE B C W' H) (fun i H v H' => J.yld i H v H') :=
    ⟨fun i H hi ⟨C, W', s, E⟩ => wk.goes i C H W' (by rw [List.length_map]; exact hi) s E, fun H ⟨C, W', s, E⟩ => by have := wk.stops C H W' s E; rwa [List.length_map] at this, fun _ _ _ _ _ _ y => y⟩
  refine for_it w (fun n σ H => ∃ a C, I n a ∧ Stt ⟨C1, B.g⟩ (G n a) (WW n a) σ C H) ⟨a0, C1, i0, (S1.sl.ws w0), (E1.wc v0).rebase⟩ (fun n σ H _ ⟨a, C, _, S'⟩ => ⟨C, _, S'.en.cc, S1.en.back S'.en⟩) (fun n v σ2 H2 H3 hn ⟨a, C2, ia, S2⟩ y => ?_) (fun σ2 H2 ⟨a, C2, ia, S2⟩ => hr a ia σ2 C2 H2 (back_st S1 S2))
  have hx : xs[n]? = some xs[n] := by rw [List.getElem?_eq_getElem hn]
  generalize hxe : xs[n] = x at hx
  have Sb := back_st S1 S2
  obtain ⟨C3, s3, E3, rv⟩ := wk.yields n C2 H2 _ v H3 (Rx x) (by rw [List.getElem?_map, hx]; rfl) S2.en.cc Sb.en y
  obtain ⟨g, pg, qg⟩ := hg x
  intro pins s u I' ru
  refine pg.run pins s _ H3 v u _ I' ru (qg B _ _ C3 H3 v _ E3 rv fun ws al => ?_)
  have E3' : EntE ⟨C1, B.g⟩ C3 (WW n a) H3 := by
    obtain ⟨G3, E3⟩ := E3
    exact ⟨G3, E3.gh, E3.ch, S2.en.cc.trans s3, fun a o o' e e' => E1.cc a o (E3.dj a o o' e e'), E3.g0, E3.nd, E3.ow⟩
  have hh := hb ⟨C1, B.g⟩ (fun Wf R fin => fin_back S1 fin) n x hx a ia _ C3 H3 ⟨sl_set al (S2.sl.mono s3), E3'⟩
  have en : (fun (σ : L2.St) (H : Hp) => ∃ a', I (n + 1) a' ∧ At ⟨C1, B.g⟩ (G (n + 1) a') (WW (n + 1) a') σ H) = (fun σ H => ∃ a C, I (n + 1) a ∧ Stt ⟨C1, B.g⟩ (G (n + 1) a) (WW (n + 1) a) σ C H) := by
    funext σ H
    exact propext ⟨fun ⟨a', i', C, S⟩ => ⟨a', C, i', S⟩, fun ⟨a', C, i', S⟩ => ⟨a', i', C, S⟩⟩
  rw [en] at hh
  exact hh
/-- o.f = [], an owned list -/
theorem Sj.fldL {q : Addr} (jw : Nat) (ho : ∀ W', Ev X B Γ W' o (tyP q)) (hj : W[jw]? = some (q, cIns Cl fs)) (c : Cls X.K Cl) (n : NoAttr X.K Cl f) (ns : List Str) (hr : ∀ z, Sj X B Γ ((W.set jw (q, cIns Cl (fs ++ [(f, tyP z)]))) ++ [(z, cLst [])]) rest D) (hns : fs.map (·.1) = ns := by rfl) (hf : f ∉ ns := by decide +kernel) (hl : ns.length < 1000 := by decide +kernel)
    (hs : swapsWith (.List [] pos) (some (.Attribute o f pos')) spos.line X.env = pure false := by rfl) : Sj X B Γ W (.Assign [.Attribute o f pos'] (.List [] pos) spos :: rest) D := fun σ C H S =>
  cons_ (ps_fld pe_s (pe_lst pa_nil) hs) ⟨Nat.zero_le _, fun z hz => by
    have E1 := S.en.own (K := cLst []) (o := .lst []) hz trivial ⟨[], rfl, .nil⟩
    have hj1 : (W ++ [(z, cLst [])])[jw]? = some (q, cIns Cl fs) := by rw [List.getElem?_append_left (List.getElem?_eq_some_iff.mp hj).1]; exact hj
    refine ho _ σ C _ ⟨S.sl, E1⟩ _ fun w C2 H2 s2 E2 r2 => ?_
    cases r2
    obtain ⟨o1, h1, _, dx, vs, rfl, al⟩ := E2.look hj1
    have hn : ∀ g ∈ fs.map (·.1), g ≠ f := fun g hg z => hf (by rw [← hns, ← z]; exact hg)
    refine ⟨q, Cl, dx, vs, rfl, h1, c, n, by rw [← fls_len al, ← List.length_map (f := (·.1)), hns]; exact hl, hr z σ C2 _ ⟨S.sl.mono s2, ?_⟩⟩
    have e : ∀ {fs : List (Str × Ty)}, (∀ g ∈ fs.map (·.1), g ≠ f) → fput f (tyP z) fs = fs ++ [(f, tyP z)] := fun {fs} h => by
      induction fs with
      | nil => rfl
      | cons q fs ih =>
        obtain ⟨g, t⟩ := q
        show (if g = f then _ else _) = _
        rw [if_neg (h g (by simp)), ih fun g hg => h g (by simp at hg ⊢; exact .inr hg)]
        rfl
    have E3 := E2.put (K' := cIns Cl (fs ++ [(f, tyP z)])) (o' := .ins Cl dx (putF f (.ref z) vs)) hj1 trivial ⟨dx, _, rfl, by rw [← e hn]; exact fls_put al rfl⟩
    rwa [List.set_append_left _ _ (List.getElem?_eq_some_iff.mp hj).1] at E3⟩
/-- a dict of owned lists of places -/
abbrev Mq := List (Str × List Nat × Addr)
abbrev natT (l : List Nat) : List Ty := l.map fun k : Nat => tyI (k : Int)
def WQ (W0 : Wl) (r : Addr) (mq : Mq) : Wl := W0 ++ (r, cD (mq.map fun z => (z.1, tyP z.2.2))) :: mq.map fun z => (z.2.2, cLst (natT z.2.1))
theorem WQ_r (W0 : Wl) (r : Addr) (mq : Mq) : (WQ W0 r mq)[W0.length]? = some (r, cD (mq.map fun z => (z.1, tyP z.2.2))) := by unfold WQ; rw [List.getElem?_append_right (Nat.le_refl _)]; simp
theorem WQ_at {W0 : Wl} {r : Addr} {mq : Mq} {i : Nat} {z : Str × List Nat × Addr} (h : mq[i]? = some z) : (WQ W0 r mq)[W0.length + 1 + i]? = some (z.2.2, cLst (natT z.2.1)) := by
  unfold WQ
  rw [List.getElem?_append_right (by omega), show W0.length + 1 + i - W0.length = i + 1 by omega, List.getElem?_cons_succ, List.getElem?_map, h]; rfl
theorem WQ_set {W0 : Wl} {r : Addr} {mq : Mq} {i : Nat} {k : Str} {l l' : List Nat} {q : Addr} (h : mq[i]? = some (k, l, q)) : (WQ W0 r mq).set (W0.length + 1 + i) (q, cLst (natT l')) = WQ W0 r (mq.set i (k, l', q)) := by
  unfold WQ
  rw [List.set_append_right _ _ (by omega), show W0.length + 1 + i - W0.length = i + 1 by omega, List.set_cons_succ, List.map_set, List.map_set]
  have e : (mq.map fun z => (z.1, tyP z.2.2)).set i (k, tyP q) = mq.map fun z => (z.1, tyP z.2.2) := by
    refine List.ext_getElem? fun j => ?_
    rw [List.getElem?_set]
    split
    · rename_i z
      subst z
      rw [List.length_map, if_pos (List.getElem?_eq_some_iff.mp h).1, List.getElem?_map, h]; rfl
    · rfl
  rw [e]
theorem WQ_new {W0 : Wl} {r : Addr} {mq : Mq} {k : Str} {l : List Nat} {q : Addr} (h : k ∉ mq.map (·.1)) : ((WQ W0 r mq) ++ [(q, cLst (natT l))]).set W0.length (r, cD (dput (mq.map fun z => (z.1, tyP z.2.2)) k (tyP q))) = WQ W0 r (mq ++ [(k, l, q)]) := by
  unfold WQ
  rw [dput_new (by rw [List.map_map]; exact h), List.append_assoc, List.set_append_right _ _ (Nat.le_refl _), Nat.sub_self]
  simp
def mqM (mq : Mq) : List (Str × List Nat) := mq.map fun z => (z.1, z.2.1)
theorem mqM_keys (mq : Mq) : (mqM mq).map (·.1) = mq.map (·.1) := by unfold mqM; rw [List.map_map]; rfl
theorem mq_find {mq : Mq} {x : Str} (h : x ∈ mq.map (·.1)) (nd : (mq.map (·.1)).Nodup) : ∃ (i : Nat) (l : List Nat) (q : Addr), mq[i]? = some (x, l, q) ∧ dget (mq.map fun z => (z.1, tyP z.2.2)) x = some (tyP q) ∧ ∀ l', mqM (mq.set i (x, l', q)) = dput (mqM mq) x l' ∧ dget (mqM mq) x = some l := by
  induction mq with
  | nil => simp at h
  | cons p mq ih =>
    obtain ⟨k, l, q⟩ := p
    rw [List.map_cons, List.nodup_cons] at nd
    by_cases hk : k = x
    · subst hk
      refine ⟨0, l, q, rfl, by rw [List.map_cons, dget_cons, if_pos rfl], fun l' => ⟨?_, by unfold mqM; rw [List.map_cons, dget_cons, if_pos rfl]⟩⟩
      unfold mqM dput
      rw [if_pos (by simp)]
      simp only [List.set_cons_zero, List.map_cons, if_true, List.map_map]
      congr 1
      refine List.map_congr_left fun z hz => ?_
      have : z.1 ≠ k := fun e => nd.1 (by rw [← e]; exact List.mem_map.mpr ⟨z, hz, rfl⟩)
      simp [this]
    · have h' : x ∈ mq.map (·.1) := by
        rcases List.mem_cons.mp h with e | h
        · exact absurd e.symm hk
        · exact h
      obtain ⟨i, l2, q2, h1, h2, h3⟩ := ih h' nd.2
      refine ⟨i + 1, l2, q2, h1, by rw [List.map_cons, dget_cons, if_neg hk]; exact h2, fun l' => ?_⟩
      obtain ⟨h4, h5⟩ := h3 l'
      refine ⟨?_, by unfold mqM; rw [List.map_cons, dget_cons, if_neg hk]; exact h5⟩
      have any : ((mqM mq).any fun p => decide (p.1 = x)) = true := by
        obtain ⟨z, hz, e⟩ := List.mem_map.mp h'
        exact List.any_eq_true.mpr ⟨(z.1, z.2.1), List.mem_map.mpr ⟨z, hz, rfl⟩, decide_eq_true e⟩
      unfold dput at h4 ⊢
      rw [if_pos any] at h4
      have any2 : ((mqM ((k, l, q) :: mq)).any fun p => decide (p.1 = x)) = true := by
        show (decide (k = x) || (mqM mq).any fun p => decide (p.1 = x)) = true
        rw [any, Bool.or_true]
      rw [if_pos any2, List.set_cons_succ]
      show (k, l) :: mqM (mq.set i (x, l', q2)) = (if k = x then _ else (k, l)) :: _
      rw [if_neg hk, h4]; rfl
theorem Sj.sdApp {W0 : Wl} {r : Addr} {mq : Mq} {k : Nat} {cpos cpos2 apos2 lpos : Pos} (nd : (mq.map (·.1)).Nodup) (ho : ∀ W', Ev X B Γ W' o (tyP r)) (he : ∀ W', Ev X B Γ W' key (tyS x)) (hp : ∀ W', Ev X B Γ W' place (tyI (k : Int))) (hl : mq.length < 1000) (hl2 : ∀ z ∈ mq, z.2.1.length < 1000)
    (hr : ∀ mq', mqM mq' = MJ.dput (mqM mq) x ((dget (mqM mq) x).getD [] ++ [k]) → Sj X B Γ (WQ W0 r mq') rest D) (m : M2 X o "setdefault" apos2 key (.List [] lpos) cpos2)
    (hs : swapsWith (.Call (.Attribute (.Call (.Attribute o "setdefault" apos2) [key, .List [] lpos] [] cpos2) "append" apos) [place] [] cpos) none spos.line X.env = pure false := by rfl)
    (hbase : attributeBase (.Call (.Attribute o "setdefault" apos2) [key, .List [] lpos] [] cpos2) "append" X.env (eval (.Call (.Attribute o "setdefault" apos2) [key, .List [] lpos] [] cpos2) X.env) = eval (.Call (.Attribute o "setdefault" apos2) [key, .List [] lpos] [] cpos2) X.env := by rfl)
    (hfew : ((backTo cpos (starEach [place] X.env)).all (fun x => !x.1) && (backToKw cpos (keywordEach [] X.env)).all (fun x => x.1.isSome)
      && decide ([place].length + ([] : List Keyword).length + (if ([] : List Keyword).isEmpty then 0 else 1) < 30)) = true := by rfl)
    (hline : (apos.endLine == cpos.line) = true := by rfl) (hst : starEach [place] X.env = (false, eval place X.env) :: starEach [] X.env := by rfl) (hplain : (backTo cpos (starEach [] X.env)).any (·.1) = false := by rfl) :
    Sj X B Γ (WQ W0 r mq) (.Expr (.Call (.Attribute (.Call (.Attribute o "setdefault" apos2) [key, .List [] lpos] [] cpos2) "append" apos) [place] [] cpos) spos :: rest) D := fun σ C H S => by
  refine cons_ (ps_expr (pe_bm PySem.F.plainAttrs_list PySem.F.slot_list_append PySem.F.type_list_append mt_append (pe_dsetd pe_s pe_s (pe_lst pa_nil) m) (pa_cons pe_s pa_nil hst) hbase hfew hline hst hplain) hs) ?_
  refine ho _ σ C H S _ fun v C1 H1 s1 E1 r1 => ?_
  cases r1
  obtain ⟨o1, h1, _, ks1, rfl, al1⟩ := E1.look (WQ_r W0 r mq)
  refine ⟨r, rfl, .inl ⟨ks1, .inl h1⟩, he _ σ C1 H1 (S.go s1 E1) _ fun y C2 H2 s2 E2 r2 => ?_⟩
  cases r2
  refine ⟨Nat.zero_le _, fun z hz => ?_⟩
  by_cases hx : x ∈ mq.map (·.1)
  · obtain ⟨i, l, q, hi, hg, hset⟩ := mq_find hx nd
    obtain ⟨s3, E3⟩ := E2.alloc (o := .lst []) hz
    obtain ⟨o3, h3, _, ks, rfl, al⟩ := E3.look (WQ_r W0 r mq)
    obtain ⟨vq, hvq, rq⟩ := (kvs_get al x).1 _ hg
    cases rq
    refine ⟨ks, Sum.inr x, h3, rfl, by rw [← kvs_len al, List.length_map]; exact small1000 (by omega), fun v hv => ?_, fun hv => (by rw [hvq] at hv; cases hv)⟩
    rw [hvq] at hv
    cases hv
    obtain ⟨o4, h4, _, vs4, rfl, al4⟩ := E3.look (WQ_at (W0 := W0) (r := r) hi)
    refine ⟨.inl ⟨rfl, vs4, SqL.of h4⟩, hp _ σ _ _ ⟨S.sl.mono (s1.trans (s2.trans s3)), E3⟩ _ fun y C5 H5 s5 E5 r5 => ?_⟩
    obtain ⟨o5, h5, _, vs5, rfl, al5⟩ := E5.look (WQ_at (W0 := W0) (r := r) hi)
    have hll := hl2 _ (List.mem_of_getElem? hi)
    refine ⟨q, vs5, y, rfl, rfl, h5, by rw [← Paired.length al5, List.length_map]; exact small1000 (by have : l.length < 1000 := hll; omega), hr (mq.set i (x, l ++ [k], q)) ?_ σ C5 _ ⟨S.sl.mono (s1.trans (s2.trans (s3.trans s5))), ?_⟩⟩
    · rw [(hset _).1, (hset []).2]; rfl
    · have := E5.put (K' := cLst (natT (l ++ [k]))) (o' := .lst (vs5 ++ [y])) (WQ_at (W0 := W0) (r := r) hi) trivial ⟨_, rfl, by
        rw [show natT (l ++ [k]) = natT l ++ [tyI (k : Int)] by simp]
        exact Paired.app al5 (.cons r5 .nil)⟩
      rwa [WQ_set hi] at this
  · have hg : dget (mq.map fun z => (z.1, tyP z.2.2)) x = none := dget_none.mpr (by rw [List.map_map]; exact hx)
    have E3 := E2.own (K := cLst (natT [])) (o := .lst []) hz trivial ⟨[], rfl, .nil⟩
    have hjr : (WQ W0 r mq ++ [(z, cLst (natT []))])[W0.length]? = some (r, cD (mq.map fun z => (z.1, tyP z.2.2))) := by
      rw [List.getElem?_append_left (List.getElem?_eq_some_iff.mp (WQ_r W0 r mq)).1]; exact WQ_r W0 r mq
    obtain ⟨o3, h3, _, ks, rfl, al⟩ := E3.look hjr
    refine ⟨ks, Sum.inr x, h3, rfl, by rw [← kvs_len al, List.length_map]; exact small1000 (by omega), fun v hv => (by rw [(kvs_get al x).2 hg] at hv; cases hv), fun hv => ?_⟩
    have E4 := E3.put (K' := cD (MJ.dput (mq.map fun z => (z.1, tyP z.2.2)) x (tyP z))) (o' := .dK (putK ks (Sum.inr x) (.ref z))) hjr trivial ⟨_, rfl, kvs_put al x rfl⟩
    rw [WQ_new hx] at E4
    have hiz : (mq ++ [(x, ([] : List Nat), z)])[mq.length]? = some (x, [], z) := by simp
    obtain ⟨o4, h4, _, vs4, rfl, al4⟩ := E4.look (WQ_at (W0 := W0) (r := r) hiz)
    refine ⟨.inl ⟨rfl, vs4, SqL.of h4⟩, hp _ σ _ _ ⟨S.sl.mono (s1.trans s2), E4⟩ _ fun y C5 H5 s5 E5 r5 => ?_⟩
    obtain ⟨o5, h5, _, vs5, rfl, al5⟩ := E5.look (WQ_at (W0 := W0) (r := r) hiz)
    refine ⟨z, vs5, y, rfl, rfl, h5, by rw [← Paired.length al5]; exact Nat.lt_of_lt_of_le (by decide : 0 < 1) (by rw [sizeLine_eq]; decide), hr (mq ++ [(x, [k], z)]) ?_ σ C5 _ ⟨S.sl.mono (s1.trans (s2.trans s5)), ?_⟩⟩
    · have : dget (mqM mq) x = none := dget_none.mpr (by rw [mqM_keys]; exact hx)
      rw [this, dput_new (by rw [mqM_keys]; exact hx)]
      unfold mqM
      rw [List.map_append]; rfl
    · have := E5.put (K' := cLst (natT [k])) (o' := .lst (vs5 ++ [y])) (WQ_at (W0 := W0) (r := r) hiz) trivial ⟨_, rfl, Paired.app al5 (.cons r5 .nil)⟩
      rw [WQ_set hiz] at this
      have e : (mq ++ [(x, ([] : List Nat), z)]).set mq.length (x, [k], z) = mq ++ [(x, [k], z)] := by simp
      rwa [e] at this
/-- the dict of lists is given away -/
theorem Sj.freezeQ {W0 : Wl} {r : Addr} {mq : Mq} (i : Nat) (hi : Γ[i]? = some (some (tyP r))) (h : Sj X B (Γ.set i (some (tyD (vmap (fun l => tyLst (natT l)) (mqM mq))))) W0 rest D) : Sj X B Γ (WQ W0 r mq) rest D := fun σ C H S => by
  have go : ∀ (W1 W : Wl) (C : Hp), EntE B C (W ++ W1) H → ∃ C', Same C C' ∧ EntE B C' W H ∧ ∀ z ∈ W1, ∃ o, C' z.1 = some o ∧ z.2.r o C' := by
    intro W1
    induction W1 with
    | nil => intro W C E; exact ⟨C, Same.refl _, by rwa [List.append_nil] at E, fun z hz => by cases hz⟩
    | cons z W1 ih =>
      intro W C E
      obtain ⟨C1, s1, E1, h1⟩ := ih (W ++ [z]) C (by rwa [List.append_assoc])
      obtain ⟨o, hn, ro, sC, E2⟩ := E1.freeze (app_last W z)
      rw [app_erase] at E2
      refine ⟨_, s1.trans sC, E2, fun y hy => ?_⟩
      rcases List.mem_cons.mp hy with rfl | hy
      · exact ⟨o, upd_same, y.2.mono sC ro⟩
      · obtain ⟨o', a, b⟩ := h1 y hy
        exact ⟨o', sC _ _ a, y.2.mono sC b⟩
  have E0 := S.en
  unfold WQ at E0
  rw [show W0 ++ (r, cD (mq.map fun z => (z.1, tyP z.2.2))) :: mq.map (fun z => (z.2.2, cLst (natT z.2.1))) = (W0 ++ [(r, cD (mq.map fun z => (z.1, tyP z.2.2)))]) ++ mq.map (fun z => (z.2.2, cLst (natT z.2.1))) by simp] at E0
  obtain ⟨C1, s1, E1, h1⟩ := go _ _ C E0
  obtain ⟨o, hn, ⟨ks, eo, al⟩, sC, E2⟩ := E1.freeze (app_last W0 _)
  subst eo
  rw [app_erase] at E2
  have all : ∀ (mq : Mq) (ks' : List (Key × V)), Kvs (mq.map fun z => (z.1, tyP z.2.2)) ks' C1 → (∀ z ∈ mq.map (fun z => (z.2.2, cLst (natT z.2.1))), ∃ o, C1 z.1 = some o ∧ z.2.r o C1) → Kvs (vmap (fun l => tyLst (natT l)) (mqM mq)) ks' (upd C1 r (.dK ks)) := by
    intro mq
    induction mq with
    | nil => intro ks' al _; cases al; exact .nil
    | cons z mq ih =>
      intro ks' al hz
      cases al with
      | cons r0 t =>
        obtain ⟨o, h2, h3⟩ := hz (z.2.2, cLst (natT z.2.1)) List.mem_cons_self
        exact .cons ⟨r0.1, by rw [show _ = V.ref z.2.2 from r0.2]; exact ⟨z.2.2, o, rfl, sC _ _ h2, (cLst (natT z.2.1)).mono sC h3⟩⟩ (ih _ t fun y hy => hz y (List.mem_cons_of_mem _ hy))
  refine h σ _ H ⟨?_, E2⟩
  obtain ⟨v, ev, rv⟩ := S.sl.2 i _ hi
  cases rv
  have hσ : σ.set i (some (.ref r)) = σ := by
    refine List.ext_getElem? fun j => ?_
    rw [List.getElem?_set]
    split
    · rename_i z
      subst z
      rw [if_pos (List.getElem?_eq_some_iff.mp ev).1, ev]
    · rfl
  rw [← hσ]
  exact Sl.set i (S.sl.mono (s1.trans sC)) ⟨r, _, rfl, upd_same, ks, rfl, all mq ks al h1⟩
end
end MJ
set_option maxHeartbeats 4000000
/-! def: Packing. -/
namespace MF
open PySem PySem.Spec L2 MT MJ
open PyProof.Rows hiding St
/-! ### the groups -/
abbrev Rws := List (Str × List Nat)
def rg (m : Rws) (r : Str) : List Nat := (dget m r).getD []
def rw1 (p : Nat) (m : Rws) (r : Str) : Rws := MJ.dput m r ((dget m r).getD [] ++ [p])
def rwT (of : Str → List Str) (m : Rws) (q : Str × Nat) : Rws := (of q.1).foldl (rw1 q.2) m
def rowsF (of : Str → List Str) (texts : List Str) : Rws := texts.zipIdx.foldl (rwT of) []
theorem rg1 (p : Nat) (m : Rws) (r x : Str) : rg (rw1 p m r) x = if r = x then rg m x ++ [p] else rg m x := by
  unfold rg rw1
  rw [dput_get]
  split
  · rename_i h; subst h; rfl
  · rfl
theorem rgs (p : Nat) (x : Str) : ∀ (l : List Str) (m : Rws), l.Nodup → rg (l.foldl (rw1 p) m) x = if x ∈ l then rg m x ++ [p] else rg m x
  | [], m, _ => by simp
  | r :: l, m, nd => by
    rw [List.nodup_cons] at nd
    show rg (l.foldl (rw1 p) (rw1 p m r)) x = _
    rw [rgs p x l _ nd.2, rg1]
    by_cases h : r = x
    · subst h
      rw [if_neg nd.1, if_pos rfl, if_pos List.mem_cons_self]
    · rw [if_neg h]
      by_cases h2 : x ∈ l
      · rw [if_pos h2, if_pos (List.mem_cons_of_mem _ h2)]
      · rw [if_neg h2, if_neg (fun z => by rcases List.mem_cons.mp z with e | z; exact h e.symm; exact h2 z)]
structure RwOk (m : Rws) (n k : Nat) (S : Str → Prop) : Prop where
  nd : (m.map (·.1)).Nodup
  len : m.length ≤ n
  each : ∀ z ∈ m, z.2.length ≤ k
  mem : ∀ x, x ∈ m.map (·.1) ↔ S x
theorem rw1_ok {m : Rws} {n k : Nat} {S : Str → Prop} {p : Nat} {r : Str} (h : RwOk m n k S) : RwOk (rw1 p m r) (n + 1) (k + 1) fun x => S x ∨ x = r := by
  have hg : ((dget m r).getD []).length ≤ k := by
    cases z : dget m r with
    | none => exact Nat.zero_le _
    | some a => exact h.each _ (dget_some_mem z)
  refine ⟨dput_nodup h.nd, Nat.le_trans (dput_len _ _ _) (by have := h.len; omega), fun z hz => ?_, fun x => ?_⟩
  · refine dput_all (P := fun l => l.length ≤ k + 1) (fun p hp => Nat.le_succ_of_le (h.each p hp)) ?_ z hz
    rw [List.length_append]; exact Nat.succ_le_succ hg
  · unfold rw1
    rw [dput_keys]
    split
    · rename_i hr
      rw [h.mem]
      exact ⟨.inl, fun z => z.elim id fun e => e ▸ (h.mem r).mp hr⟩
    · rw [List.mem_append, h.mem, List.mem_singleton]
theorem rws_ok {p : Nat} : ∀ (l : List Str) {m : Rws} {n k : Nat} {S : Str → Prop}, RwOk m n k S → RwOk (l.foldl (rw1 p) m) (n + l.length) (k + l.length) fun x => S x ∨ x ∈ l
  | [], m, n, k, S, h => ⟨h.nd, h.len, h.each, fun x => (h.mem x).trans (by simp)⟩
  | r :: l, m, n, k, S, h => by
    have := rws_ok (p := p) l (rw1_ok (p := p) (r := r) h)
    refine ⟨this.nd, Nat.le_trans this.len (by rw [List.length_cons]; omega), fun z hz => Nat.le_trans (this.each z hz) (by rw [List.length_cons]; omega), fun x => (this.mem x).trans ?_⟩
    rw [List.mem_cons]
    exact ⟨fun z => z.elim (fun z => z.elim .inl fun e => .inr (.inl e)) fun z => .inr (.inr z), fun z => z.elim (fun z => .inl (.inl z)) fun z => z.elim (fun e => .inl (.inr e)) .inr⟩
structure RowOk (of : Str → List Str) (texts : List Str) (n : Nat) (m : Rws) : Prop where
  ok : RwOk m (60 * n) (60 * n) fun x => ∃ j, j < n ∧ ∃ t, texts[j]? = some t ∧ x ∈ of t
  g : ∀ x, rg m x = (List.range n).filter fun j => match texts[j]? with
    | some t => decide (x ∈ of t)
    | none => false
theorem rows_ok {of : Str → List Str} {texts : List Str} (hof : ∀ t ∈ texts, (of t).Nodup ∧ (of t).length ≤ 60) : ∀ n, n ≤ texts.length → RowOk of texts n ((texts.zipIdx.take n).foldl (rwT of) [])
  | 0, _ => ⟨⟨List.nodup_nil, Nat.le_refl _, fun z hz => (by cases hz), fun x => ⟨fun h => (by cases h), fun ⟨j, hj, _⟩ => (by omega)⟩⟩, fun x => rfl⟩
  | n + 1, hn => by
    have ih := rows_ok hof n (by omega)
    have hx : texts[n]? = some texts[n] := List.getElem?_eq_getElem (by omega)
    generalize hxe : texts[n] = t at hx
    have hz : texts.zipIdx[n]? = some (t, n) := by rw [List.getElem?_zipIdx, hx]; simp
    rw [foldl_take (rwT of) [] hz]
    obtain ⟨h1, h2⟩ := hof t (List.mem_of_getElem? hx)
    have ok := rws_ok (p := n) (of t) ih.ok
    refine ⟨⟨ok.nd, Nat.le_trans ok.len (by omega), fun z hz => Nat.le_trans (ok.each z hz) (by omega), fun x => (ok.mem x).trans ?_⟩, fun x => ?_⟩
    · constructor
      · rintro (⟨j, hj, z⟩ | h)
        · exact ⟨j, by omega, z⟩
        · exact ⟨n, by omega, t, hx, h⟩
      · rintro ⟨j, hj, t', ht', h⟩
        by_cases e : j = n
        · subst e
          rw [hx] at ht'; cases ht'
          exact .inr h
        · exact .inl ⟨j, by omega, t', ht', h⟩
    · show rg ((of t).foldl (rw1 n) _) x = _
      rw [rgs n x _ _ h1, ih.g, List.range_succ, List.filter_append]
      by_cases hm : x ∈ of t
      · rw [if_pos hm]
        congr 1
        simp [hx, hm]
      · rw [if_neg hm]
        simp [hx, hm]
theorem pick_snoc {α : Type} [DecidableEq α] (g : α → List Nat) (r : α) : ∀ (l rs : List α), MK.pickF g rs (l ++ [r]) = if g r ∈ (MK.pickF g rs l).map g then MK.pickF g rs l else MK.pickF g rs l ++ [r]
  | [], rs => by
    show MK.pickF g rs [r] = _
    unfold MK.pickF
    split <;> (unfold MK.pickF; simp_all [MK.pickF])
  | a :: l, rs => by
    show MK.pickF g rs (a :: (l ++ [r])) = _
    unfold MK.pickF
    split
    · exact pick_snoc g r l rs
    · exact pick_snoc g r l (rs ++ [a])
structure PkD where
  texts : List Str
  unit : Int
  bounds : List Int
  level : Int
  readable : List Str
  groups : List (List Nat)
  readers : List Str
abbrev grT (l : List Nat) : Ty := tyTup (natT l)
abbrev pkFs (d : PkD) : List (Str × Ty) := [("texts", txT d.texts), ("unit", tyI d.unit), ("bounds", tyLst (d.bounds.map tyI)), ("level", tyI d.level), ("readable", txT d.readable), ("groups", tyLst (d.groups.map grT)), ("readers", tyLst (d.readers.map tyS))]
def pkFsA (d : PkD) (g r : Ty) : List (Str × Ty) := [("texts", txT d.texts), ("unit", tyI d.unit), ("bounds", tyLst (d.bounds.map tyI)), ("level", tyI d.level), ("readable", txT d.readable), ("groups", g), ("readers", r)]
abbrev tbK (tb : Tbl) : List Str := srt (tb.map (·.1))
def pkR (tb : Tbl) (ch : Chs) : List Str := MK.pickF (MK.grpF (chG ch) (tbK tb)) [] (srt ((rowsF (chG ch) (tbK tb)).map (·.1)))
def pkF (tb : Tbl) (ch : Chs) (lev : Rat) : PkD where
  texts := tbK tb
  unit := MK.unitI (tbS tb) (min lev 1)
  bounds := MK.boundsF (tbK tb) (tbW tb) (tbS tb) (min lev 1)
  level := MK.levI (tbS tb) (min lev 1)
  readable := srt (dst (flT ch))
  groups := (pkR tb ch).map (MK.grpF (chG ch) (tbK tb))
  readers := pkR tb ch
structure PkPre (i : Tbl × Chs × Rat) : Prop where
  tb : TbIn i.1
  tl : i.1.length ≤ 12
  sub : ∀ t ∈ i.1.map (·.1), t ∈ i.2.1.map (·.1)
  each : ∀ t, (chG i.2.1 t).Nodup ∧ (chG i.2.1 t).length ≤ 60
  sm : Sm i.2.2
  s0 : 0 < tbS i.1
  sb : Lb 4000 (tbS i.1)
  wl : ∀ t, Lb 4000 (tbW i.1 t)
  f1 : (flT i.2.1).length ≤ 1000
  f2 : (dst (flT i.2.1)).length < 64
/-! a list of places among such lists -/
def natD (l : List Nat) : PyData := .tuple (l.map fun k : Nat => .int (k : Int))
theorem natD_lay : ∀ l : List Nat, PyData.canLayAll0 (l.map fun k : Nat => PyData.int (k : Int)) = true
  | [] => by simp [PyData.canLayAll0]
  | k :: l => by simp [PyData.canLayAll0, PyData.canLay0, natD_lay l]
theorem natD_dep : ∀ l : List Nat, PyData.depthAll (l.map fun k : Nat => PyData.int (k : Int)) ≤ 1
  | [] => by simp [PyData.depthAll]
  | k :: l => by
    have := natD_dep l
    simp only [List.map_cons, PyData.depthAll, PyData.depth]
    omega
theorem natD_depth (l : List Nat) : (natD l).depth ≤ 2 := by
  have := natD_dep l
  simp only [natD, PyData.depth]
  omega
theorem natD_lay0 (l : List Nat) : (natD l).canLay0 = true := by simp only [natD, PyData.canLay0]; exact natD_lay l
theorem natD_sh (l : List Nat) : SeqAt.shaped (natD l) = true := by
  have h := natD_depth l
  show ((natD l).canLay0 && decide ((natD l).depth ≤ 64)) = true
  rw [Bool.and_eq_true]
  exact ⟨natD_lay0 l, decide_eq_true (by omega)⟩
theorem natDs_lay : ∀ ls : List (List Nat), PyData.canLayAll0 (ls.map natD) = true
  | [] => by simp [PyData.canLayAll0]
  | l :: ls => by simp [PyData.canLayAll0, natD_lay0 l, natDs_lay ls]
theorem natDs_depth : ∀ ls : List (List Nat), PyData.depthAll (ls.map natD) ≤ 2
  | [] => by simp [PyData.depthAll]
  | l :: ls => by
    have h1 := natDs_depth ls
    have h2 := natD_depth l
    simp only [List.map_cons, PyData.depthAll]
    omega
theorem natDs_sh (ls : List (List Nat)) : SeqAt.shaped (.list (ls.map natD)) = true := by
  have h1 := natDs_depth ls
  have h2 : PyData.depth (.list (ls.map natD)) ≤ 64 := by
    simp only [PyData.depth]
    omega
  show (PyData.canLay0 (.list (ls.map natD)) && decide (PyData.depth (.list (ls.map natD)) ≤ 64)) = true
  rw [Bool.and_eq_true]
  exact ⟨by simp only [PyData.canLay0]; exact natDs_lay ls, decide_eq_true h2⟩
theorem natD_eqv : ∀ l m : List Nat, PyData.eqvAll (l.map fun k : Nat => PyData.int (k : Int)) (m.map fun k : Nat => PyData.int (k : Int)) = decide (l = m)
  | [], [] => by simp [PyData.eqvAll]
  | [], _ :: _ => by simp [PyData.eqvAll]
  | _ :: _, [] => by simp [PyData.eqvAll]
  | a :: l, b :: m => by
    simp only [List.map_cons, PyData.eqvAll, PyData.eqv]
    rw [natD_eqv l m]
    by_cases h1 : a = b
    · by_cases h2 : l = m
      · simp [h1, h2]
      · simp [h1, h2]
    · have : ((a : Int) == (b : Int)) = false := by simp; omega
      rw [this]; simp [h1]
theorem natD_eq (l m : List Nat) : PyData.eqv (natD l) (natD m) = decide (l = m) := by
  simp only [natD, PyData.eqv]; exact natD_eqv l m
theorem natD_dp {K : PySem.W.Frag} {C H : Hp} : ∀ {l : List Nat} {vs : List V}, Als (natT l) vs C → DpAll K H vs (l.map fun k : Nat => PyData.int (k : Int))
  | [], _, .nil => .nil
  | k :: l, _, .cons r t => .cons (by rw [show _ = V.int (k : Int) from r]; exact .int _) (natD_dp t)
theorem TnotG {X : Cx} {B : Bs} {Γ : Gm} {W : Wl} {a b : Expr} {pos : Pos} {l : List Nat} {gs : List (List Nat)} (hu : X.A.units + 65 < cLine) (ha : Ev X B Γ W a (grT l)) (hb : Lv X B Γ W b (cLst (gs.map grT))) (hm : behindInMarks .NotIn b = false := by with_unfolding_all rfl) : Tv X B Γ W (.Compare a [.NotIn] [b] pos) (· = !decide (l ∈ gs)) := fun σ C H S Q k =>
  toT (pt_cmpR (op_notInD hu) pe_s pe_s hm) (ha σ C H S _ fun x C1 H1 s1 E1 r1 => hb σ C1 H1 (S.go s1 E1) _ fun p C2 H2 s2 E2 g => by
    obtain ⟨o, h1, vs, rfl, al⟩ := g C2 H2 (Same.refl _) E2
    obtain ⟨q, ws, rfl, _, hq, al2⟩ := getT E2 ((grT l).mono s2 r1)
    have ds : ∀ {gs : List (List Nat)} {vs : List V}, Als (gs.map grT) vs C2 → DpAll X.K H2 vs (gs.map natD) := fun {gs} => by
      induction gs with
      | nil => intro vs al; cases al; exact .nil
      | cons g gs ih =>
        intro vs al
        cases al with
        | cons r t =>
          obtain ⟨z, zs, rfl, _, hz, al3⟩ := getT E2 r
          exact .cons (.tup (SqT.of hz) (natD_dp al3)) (ih t)
    refine ⟨natD l, gs.map natD, .tup (SqT.of hq) (natD_dp al2), .lst (SqL.of (at_lst h1)) (ds al), natD_sh l, natDs_sh gs, _, rfl, k _ C2 H2 (s1.trans s2) E2 ?_⟩
    congr 1
    rw [Bool.eq_iff_iff, List.any_map, List.any_eq_true, decide_eq_true_iff]
    constructor
    · rintro ⟨m, hm, e⟩
      have e : PyData.eqv (natD m) (natD l) = true := e
      rw [natD_eq] at e
      exact (of_decide_eq_true e) ▸ hm
    · intro hm
      exact ⟨l, hm, by show PyData.eqv (natD l) (natD l) = true; rw [natD_eq]; simp⟩)
section
variable {P : Program} {w : World} {K : PySem.W.Frag} {mg : Str → Option Value} {base : Heap}
theorem sm_min {q : Rat} (h : Sm q) : Sm (min q 1) := by
  by_cases z : q ≤ 1
  · rw [show min q 1 = q by grind]; exact h
  · rw [show min q 1 = 1 by grind]; exact sm1
abbrev NPk : List Str := ["self", "source", "changes", "level", "rows", "place", "text", "read", "group"]
theorem sc_pk : FnScope NPk ["self", "source", "changes", "level"] (defScope s_packing_init) := ⟨rfl, rfl, rfl, by decide +kernel, rfl, by decide +kernel, by decide +kernel⟩
abbrev sp_pk (K : PySem.W.Frag) : Sp := spI (CPacking K) PkPre (fun i => [tyTb K i.1, tyCh K i.2.1, tySh (CShare K) i.2.2]) (fun i => pkFs (pkF i.1 i.2.1 i.2.2))
theorem unit_lb {a : Int} {q : Rat} (h1 : Lb 4000 a) (h2 : Lb 4000 q.den) (h0 : 0 < a) : Lb 8000 (MK.unitI a q) := by
  have e : Lb (4000 + 4000) (a * q.den) := lb_mul h1 h2
  refine lb_le e ?_
  unfold MK.unitI
  rw [Int.natAbs_natCast, Int.natAbs_mul, Int.natAbs_natCast]
  exact Nat.le_of_dvd (Nat.mul_pos (by omega) q.den_pos) (Nat.lcm_dvd_mul _ _)
theorem f_packing (T : Tx K mg) : C8.Mak P w K mg base 5 "Packing" (CPacking K) (sp_pk K) [] :=
  mkMak T.kPacking T.gPacking T.d_packing_init sc_pk (fun _ _ _ _ _ _ us hl => match us, hl with | [_, _, _, _], _ => rfl) (lenW fun _ => rfl) (bodyW fun cdv A outer s H E hr i B D p hp fin finN => by
    obtain ⟨tb, ch, lev⟩ := i
    have hu := hu_of hr
    have hu65 : (A.deeper (envOfC "Packing.__init__" (defScope s_packing_init) s.heap.objs.size (He.ma K (He.ga K "Packing") "__init__") cdv)).units + 65 < cLine := by have := hr.un; omega
    have htl := hp.tl
    have hs := sm_min hp.sm
    have hden := den_pos (min lev 1)
    have hub : Lb 8000 (MK.unitI (tbS tb) (min lev 1)) := unit_lb hp.sb hs.d hp.s0
    have hkl : (tbK tb).length ≤ 12 := by unfold tbK; rw [srt_length, List.length_map]; exact htl
    refine Sj.expr (Ev.call (f_known T) hr (by decide) (tb, ch) ⟨by show tb.length < 64; have : tb.length ≤ 12 := htl; omega, hp.sub⟩ (As.cons (Ev.v 1 rfl) (As.cons (Ev.v 2 rfl) As.nil))) ?_
    refine Sj.set 3 sc_pk.nd (Ev.call (f_most1 T) hr (by decide) lev hp.sm (As.cons (Ev.v 3 rfl) As.nil)) ?_
    refine Sj.fld 0 (Ev.meth0 (pl := _) (f_tbtexts T) hr (by decide) tb (by show tb.length < 64; have : tb.length ≤ 12 := htl; omega) (Ev.v 1 rfl)) (Ev.v 0 rfl) rfl T.cPacking T.nPacking_texts [] ?_
    refine Sj.fld 0 (Ev.call (f_lcm T) hr (by decide) (tbS tb, ((min lev 1).den : Int)) ⟨hp.s0, hden, hp.sb, hs.d⟩ (As.cons (Ev.tbWhole T (Ev.v 1 rfl)) (As.cons (Ev.under T (Ev.v 3 rfl)) As.nil))) (Ev.v 0 rfl) rfl T.cPacking T.nPacking_unit ["texts"] ?_
    refine Sj.fld 0 (Ev.lc [("text", 6)] rfl sc_pk.nd (Iv.tup (Ev.fld (Lv.own 0 (Ev.v 0 rfl) rfl) T.cPacking T.nPacking_texts)) (blkOk_by (N := NPk) (sc := defScope s_packing_init) (by decide +kernel)) (fun x s0 H0 Cc cl fp => gName 6 sc_pk.nd) (by decide) (small1000 (Nat.le_trans hkl (by decide)))
      (Ro := fun t => tyI (tbW tb t * (MK.unitI (tbS tb) (min lev 1) / tbS tb))) (fun t ht s0 H0 Cc cl fp D K => Ev.mul (Ev.meth (pl := _) (f_tbwof T) hr (by decide) (tb, t) trivial (Ev.v 1 rfl) (As.cons (Ev.v 6 rfl) As.nil)) (Ev.div (Ev.fld (Lv.own 0 (Ev.v 0 rfl) rfl) T.cPacking T.nPacking_unit) (Ev.tbWhole T (Ev.v 1 rfl)) (wide_div hp.s0 hp.sb (by decide) (by decide))) (wide_mul (hp.wl t) (lb_div hub) (by decide) (by decide) (by decide)))) (Ev.v 0 rfl) rfl T.cPacking T.nPacking_bounds ["texts", "unit"] ?_
    refine Sj.fld 0 (Ev.mul (Ev.over T (Ev.v 3 rfl)) (Ev.div (Ev.fld (Lv.own 0 (Ev.v 0 rfl) rfl) T.cPacking T.nPacking_unit) (Ev.under T (Ev.v 3 rfl)) (wide_div hden hs.d (by decide) (by decide))) (wide_mul hs.n (lb_div hub) (by decide) (by decide) (by decide))) (Ev.v 0 rfl) rfl T.cPacking T.nPacking_level ["texts", "unit", "bounds"] ?_
    refine Sj.fld 0 (Ev.meth0 (pl := _) (f_chread T) hr (by decide) ch ⟨hp.f1, hp.f2⟩ (Ev.v 2 rfl)) (Ev.v 0 rfl) rfl T.cPacking T.nPacking_readable ["texts", "unit", "bounds", "level"] ?_
    refine Sj.fldL 0 (fun W' => Ev.v 0 rfl) rfl T.cPacking T.nPacking_groups ["texts", "unit", "bounds", "level", "readable"] fun g => ?_
    refine Sj.fldL 0 (fun W' => Ev.v 0 rfl) rfl T.cPacking T.nPacking_readers ["texts", "unit", "bounds", "level", "readable", "groups"] fun rd => ?_
    refine Sj.newD 4 sc_pk.nd fun r => ?_
    have htx : ∀ t ∈ tbK tb, t ∈ ch.map (·.1) := fun t ht => hp.sub t (srt_mem.mp ht)
    have hof : ∀ t ∈ tbK tb, (chG ch t).Nodup ∧ (chG ch t).length ≤ 60 := fun t _ => hp.each t
    refine Sj.ws (Γ' := [some (tyP p), some (tyTb K tb), some (tyCh K ch), none, some (tyP r), none, none, none, none]) (W' := WQ [(p, cIns (CPacking K) (pkFsA (pkF tb ch lev) (tyP g) (tyP rd))), (g, cLst []), (rd, cLst [])] r []) (.k (.k (.k (.d (.k (.d (.d (.d (.d .n))))))))) (.c (fun o C h => ?_) (Wc.refl _)) ?_
    · have e : tyLst ((pkF tb ch lev).bounds.map tyI) = tyLst ((tbK tb).map fun t => tyI (tbW tb t * (MK.unitI (tbS tb) (min lev 1) / tbS tb))) := by
        show tyLst ((MK.boundsF _ _ _ _).map tyI) = _
        unfold MK.boundsF
        rw [List.map_map]; rfl
      unfold pkFsA
      rw [e]; exact h
    refine Sj.forE (ι := Mq) (xs := (tbK tb).zipIdx) (Rx := fun q => tyTup [tyI ((q.2 : Nat) : Int), tyS q.1]) rfl PassesOwn.never (Iv.enumTM T.f_enumerate (Ev.fld (Lv.own 0 (Ev.v 0 rfl) rfl) T.cPacking T.nPacking_texts)) (fun x => gLt rfl (gLc (gName 5 sc_pk.nd) (gLc (gName 6 sc_pk.nd) gL0)))
      (fun n mq => mqM mq = ((tbK tb).zipIdx.take n).foldl (rwT (chG ch)) []) (fun n mq => [some (tyP p), some (tyTb K tb), some (tyCh K ch), none, some (tyP r), none, none, none, none]) (fun n mq => WQ [(p, cIns (CPacking K) (pkFsA (pkF tb ch lev) (tyP g) (tyP rd))), (g, cLst []), (rd, cLst [])] r mq) [] rfl (Ws.refl _) (Wc.refl _) (fun B' _ n z hn mq hmq => ?_) (fun mq hmq => ?_)
    · obtain ⟨hx, rfl⟩ := zip_at hn
      obtain ⟨t, n⟩ := z
      have htm : t ∈ tbK tb := List.mem_of_getElem? hx
      have hn2 : n < (tbK tb).length := (List.getElem?_eq_some_iff.mp hx).1
      have ro := rows_ok hof n (by omega)
      have hmq : mqM mq = ((tbK tb).zipIdx.take n).foldl (rwT (chG ch)) [] := hmq
      rw [← hmq] at ro
      refine Sj.forE (ι := Mq) (xs := chG ch t) (Rx := tyS) rfl PassesOwn.never (Iv.tup (Ev.meth (pl := _) (f_chof T) hr (by decide) (ch, t, chG ch t) (chG_of (htx t htm)) (Ev.v 2 rfl) (As.cons (Ev.v 6 rfl) As.nil))) (fun x => gName 7 sc_pk.nd)
        (fun m mq' => mqM mq' = ((chG ch t).take m).foldl (rw1 n) (mqM mq)) (fun m mq' => [some (tyP p), some (tyTb K tb), some (tyCh K ch), none, some (tyP r), some (tyI (n : Int)), none, none, none]) (fun m mq' => WQ [(p, cIns (CPacking K) (pkFsA (pkF tb ch lev) (tyP g) (tyP rd))), (g, cLst []), (rd, cLst [])] r mq') mq rfl (.k (.k (.k (.k (.k (.k (.d (.d (.d .n))))))))) (Wc.refl _) (fun B2 _ m x hm mq2 hmq2 => ?_) (fun mq2 hmq2 => ?_)
      · have r2 := rws_ok (p := n) ((chG ch t).take m) ro.ok
        have hmq2 : mqM mq2 = ((chG ch t).take m).foldl (rw1 n) (mqM mq) := hmq2
        rw [← hmq2] at r2
        have hc := (hp.each t).2
        have hc : (chG ch t).length ≤ 60 := hc
        have l1 := r2.len
        have l2 := r2.each
        rw [List.length_take] at l1
        have e1 : mq2.length = (mqM mq2).length := by unfold mqM; rw [List.length_map]
        refine Sj.sdApp (mq := mq2) (x := x) (k := n) (by rw [← mqM_keys]; exact r2.nd) (fun W' => Ev.v 4 rfl) (fun W' => Ev.v 7 rfl) (fun W' => Ev.v 5 rfl) (by omega) (fun z hz => ?_) (fun mq3 h3 => Sj.nil fun σ C H S => ⟨mq3, ?_, C, S.ws (.k (.k (.k (.k (.k (.k (.d (.d (.d .n))))))))) (Wc.refl _)⟩) ⟨rfl, rfl, rfl, rfl⟩
        · have := l2 (z.1, z.2.1) (List.mem_map.mpr ⟨z, hz, rfl⟩)
          rw [List.length_take] at this
          have this : z.2.1.length ≤ _ := this
          omega
        · rw [foldl_take (rw1 n) _ hm, ← hmq2]
          exact h3
      · rw [List.take_length] at hmq2
        refine Sj.nil fun σ C H S => ⟨mq2, ?_, C, S.ws (.k (.k (.k (.k (.k (.d (.d (.d (.d .n))))))))) (Wc.refl _)⟩
        rw [foldl_take (rwT (chG ch)) [] hn, ← hmq]
        exact hmq2
    have hzl : (tbK tb).zipIdx.take ((tbK tb).zipIdx).length = (tbK tb).zipIdx := List.take_length
    have hmq : mqM mq = rowsF (chG ch) (tbK tb) := by
      have h : mqM mq = ((tbK tb).zipIdx.take ((tbK tb).zipIdx).length).foldl (rwT (chG ch)) [] := hmq
      rw [hzl] at h; exact h
    have ro := rows_ok hof (tbK tb).length (Nat.le_refl _)
    have hzl2 : (tbK tb).zipIdx.take (tbK tb).length = (tbK tb).zipIdx := by rw [← List.length_zipIdx (l := tbK tb) (i := 0)]; exact hzl
    rw [hzl2] at ro
    have ro : RowOk (chG ch) (tbK tb) (tbK tb).length (rowsF (chG ch) (tbK tb)) := ro
    refine Sj.freezeQ 4 rfl ?_
    rw [hmq]
    have hkeys : ∀ x, x ∈ (rowsF (chG ch) (tbK tb)).map (·.1) → x ∈ dst (flT ch) := fun x hx => by
      obtain ⟨j, hj, t, ht, hm⟩ := (ro.ok.mem x).mp hx
      have h1 := dget_some_mem (chG_of (htx t (List.mem_of_getElem? ht)))
      exact dst_mem.mpr (List.mem_flatMap.mpr ⟨_, h1, hm⟩)
    have hkl2 : (rowsF (chG ch) (tbK tb)).length < 64 := by
      have h1 := MR.len_sub ro.ok.nd hkeys
      rw [List.length_map] at h1
      have : (dst (flT ch)).length < 64 := hp.f2
      omega
    have hgrp : ∀ x, rg (rowsF (chG ch) (tbK tb)) x = MK.grpF (chG ch) (tbK tb) x := fun x => (ro.g x).trans (by unfold MK.grpF; refine List.filter_congr fun j _ => ?_; cases (tbK tb)[j]? <;> rfl)
    refine Sj.for_ (xs := srt ((rowsF (chG ch) (tbK tb)).map (·.1))) (Rx := tyS) rfl PassesOwn.never (Iv.list (Ev.eq (sortD rfl T.f_sorted (Lv.core (Ev.v 4 rfl)) (by unfold vmap; rw [List.length_map]; exact hkl2)) (by rw [vmap_keys]))) (fun x => gName 7 sc_pk.nd)
      (fun n => [some (tyP p), none, none, none, some (tyD (vmap (fun l => tyLst (natT l)) (rowsF (chG ch) (tbK tb)))), none, none, none, none])
      (fun n => [(p, cIns (CPacking K) (pkFsA (pkF tb ch lev) (tyP g) (tyP rd))), (g, cLst (((MK.pickF (MK.grpF (chG ch) (tbK tb)) [] ((srt ((rowsF (chG ch) (tbK tb)).map (·.1))).take n)).map (MK.grpF (chG ch) (tbK tb))).map grT)), (rd, cLst ((MK.pickF (MK.grpF (chG ch) (tbK tb)) [] ((srt ((rowsF (chG ch) (tbK tb)).map (·.1))).take n)).map tyS))]) (.k (.d (.d (.d (.k (.d (.d (.d (.d .n))))))))) (Wc.refl _) (fun B' _ _ _ n x hn => ?_) ?_
    · have hxm := srt_mem.mp (List.mem_of_getElem? hn)
      have hg : dget (vmap (fun l => tyLst (natT l)) (rowsF (chG ch) (tbK tb))) x = some (tyLst (natT (MK.grpF (chG ch) (tbK tb) x))) := by
        obtain ⟨l, hl⟩ := dget_of hxm
        rw [dget_vmap, hl, ← hgrp x]
        unfold rg
        rw [hl]; rfl
      have ht : (srt ((rowsF (chG ch) (tbK tb)).map (·.1))).take (n + 1) = (srt ((rowsF (chG ch) (tbK tb)).map (·.1))).take n ++ [x] := by rw [List.take_succ, hn]; rfl
      have hpl : (MK.pickF (MK.grpF (chG ch) (tbK tb)) [] ((srt ((rowsF (chG ch) (tbK tb)).map (·.1))).take n)).length ≤ 64 := by
        have h1 : ∀ (l rs : List Str), (MK.pickF (MK.grpF (chG ch) (tbK tb)) rs l).length ≤ rs.length + l.length := by
          intro l
          induction l with
          | nil => intro rs; exact Nat.le_refl _
          | cons a l ih =>
            intro rs
            unfold MK.pickF
            split
            · exact Nat.le_trans (ih rs) (by simp)
            · exact Nat.le_trans (ih _) (by simp; omega)
        have := h1 ((srt ((rowsF (chG ch) (tbK tb)).map (·.1))).take n) []
        rw [List.length_take, srt_length, List.length_map] at this
        simp only [List.length_nil] at this
        omega
      generalize hP : MK.pickF (MK.grpF (chG ch) (tbK tb)) [] ((srt ((rowsF (chG ch) (tbK tb)).map (·.1))).take n) = Pn at hpl ⊢
      rw [ht, pick_snoc, hP]
      refine Sj.set 8 sc_pk.nd (tupL T.f_tuple (Lv.core (dgetE (Lv.core (Ev.v 4 rfl)) (Ev.v 7 rfl) hg hu))) ?_
      refine Sj.if_ (TnotG hu65 (Ev.v 8 rfl) (Lv.own 1 (Ev.fld (Lv.own 0 (Ev.v 0 rfl) rfl) T.cPacking T.nPacking_groups) rfl)) (fun h => ?_) (fun h => ?_)
      · have hm : MK.grpF (chG ch) (tbK tb) x ∉ Pn.map (MK.grpF (chG ch) (tbK tb)) := fun z => by rw [decide_eq_true z] at h; cases h
        rw [if_neg hm]
        refine Sj.append 1 (Ev.fld (Lv.own 0 (Ev.v 0 rfl) rfl) T.cPacking T.nPacking_groups) rfl (Ev.v 8 rfl) ?_ ?_
        · rw [List.length_map, List.length_map]; exact small1000 (by omega)
        refine Sj.append 2 (Ev.fld (Lv.own 0 (Ev.v 0 rfl) rfl) T.cPacking T.nPacking_readers) rfl (Ev.v 7 rfl) ?_ ?_
        · rw [List.length_map]; exact small1000 (by omega)
        refine Sj.go (Sj.at (.k (.d (.d (.d (.k (.d (.d (.d (.d .n))))))))) (.k (.c (fun o C h => ?_) (.c (fun o C h => ?_) .n)))) rfl
        · rw [List.map_append, List.map_append]; exact h
        · rw [List.map_append]; exact h
      · have hm : MK.grpF (chG ch) (tbK tb) x ∈ Pn.map (MK.grpF (chG ch) (tbK tb)) := by
          by_cases z : MK.grpF (chG ch) (tbK tb) x ∈ Pn.map (MK.grpF (chG ch) (tbK tb))
          · exact z
          · rw [decide_eq_false z] at h; cases h
        rw [if_pos hm]
        exact Sj.go (Sj.at (.k (.d (.d (.d (.k (.d (.d (.d (.d .n))))))))) (Wc.refl _)) rfl
    rw [List.take_length]
    refine Sj.freezeF (f := "groups") (fs1 := [("texts", txT (pkF tb ch lev).texts), ("unit", tyI (pkF tb ch lev).unit), ("bounds", tyLst ((pkF tb ch lev).bounds.map tyI)), ("level", tyI (pkF tb ch lev).level), ("readable", txT (pkF tb ch lev).readable)]) (fs2 := [("readers", tyP rd)]) 1 0 rfl (by decide) rfl ?_
    refine Sj.freezeF (f := "readers") (fs1 := [("texts", txT (pkF tb ch lev).texts), ("unit", tyI (pkF tb ch lev).unit), ("bounds", tyLst ((pkF tb ch lev).bounds.map tyI)), ("level", tyI (pkF tb ch lev).level), ("readable", txT (pkF tb ch lev).readable), ("groups", _)]) (fs2 := []) 1 0 rfl (by decide) rfl ?_
    exact Sj.nil fun σ C H S => finN σ C H S.en rfl)
end
end MF
set_option maxHeartbeats 4000000
/-! Typed rules for objects that own a list. -/
namespace MJ
open PySem PySem.Spec L2
open PyProof.Rows hiding St
section
variable {ι : Type}
def spQ (pre : ι → Prop) (Wi : ι → Wl) (ar : ι → List Ty) (Wi' : ι → Wl) (R : ι → Ty) : Sp := fun vs H Q _ => ∃ (i : ι) (C g : Hp), pre i ∧ EntE ⟨C, g⟩ C (Wi i) H ∧ Als (ar i) vs C ∧ ∀ v C' H', EntE ⟨C, g⟩ C' (Wi' i) H' → (R i).r v C' → Q v H'
end
def optT (o : Option Nat) : Ty := match o with
  | some c => tyI (c : Int)
  | none => tyN
theorem optT_non {o : Option Nat} {v : V} {C : Hp} (h : (optT o).r v C) : decide (v = .non) = o.isNone := by
  cases o with
  | none => rw [show v = V.non from h]; rfl
  | some c => rw [show v = V.int c from h]; rfl
section
variable {X : Cx} {B : Bs} {Γ Γ' : Gm} {W W' : Wl} {a b c e o tg iter value key place elt : Expr} {es tgs ifs : List Expr} {pos pos' apos p spos : Pos} {R Ra Rb T : Ty} {Ts Us : List Ty} {K : Con} {x f m : Str} {fs : List (Str × Ty)} {C Cl : Addr} {i j : Int} {k n : Nat}
variable {st : Stmt} {rest A E body : List Stmt} {D : Ends} {N : List Str} {ι : Type} {pre : ι → Prop} {Wi Wi' : ι → Wl} {ar : ι → List Ty} {Rr : ι → Ty}
theorem Ev.neg (h : Ev X B Γ W a (tyI i)) : Ev X B Γ W (.UnaryOp .USub a pos) (tyI (-i)) := fun σ C H S Q k => toE (pe_un un_neg pe_s) (h σ C H S _ fun v C1 H1 s1 E1 r => ⟨i, r, k _ C1 H1 s1 E1 rfl⟩)
theorem methQ_ {pl : Sem Bool} (c : C8.Met X.prog X.w X.K X.mg X.base k Cl m (spQ pre Wi ar Wi' Rr) []) (hr : Room n X.A) (hk : k ≤ n) (i : ι) (hp : pre i) (hW : Wi i = W) {q : Addr} (ho : Ev X B Γ W o (tyP q)) {jw : Nat} (hj : W[jw]? = some (q, cIns Cl fs)) (ha : As X B Γ W (e :: es) Ts) (hi : ar i = tyP q :: Ts) (hm : fs.lookup m = none)
    (hst : starEach (e :: es) X.env = (false, eval e X.env) :: starEach es X.env) (hpl : (backTo pos (starEach es X.env)).any (·.1) = false)
    (ht : eval (.Call (.Attribute o m apos) (e :: es) [] pos) X.env = (do
      let ov ← eval o X.env
      standAt apos.atName
      let (f, first) ← holding [ov] (getMethod ov m pl)
      callWith pos f first (backTo pos (starEach (e :: es) X.env)) (backToKw pos (keywordEach [] X.env))))
    {σ : L2.St} {C H : Hp} (S : Stt B Γ W σ C H) {Q : VK} (q : ∀ v C' H', Same C C' → EntE B C' (Wi' i) H' → (Rr i).r v C' → Q v H') : sE X (.Call (.Attribute o m apos) (e :: es) [] pos) σ H Q :=
  toE (C8.pe_mt c hr hk pe_s pa_s hst hpl ht) (ho σ C H S _ fun v C1 H1 s1 E1 r1 => by
    cases r1
    obtain ⟨o1, h1, _, dx, vs, rfl, al⟩ := E1.look hj
    refine ⟨_, dx, vs, rfl, h1, fls_none al hm, fun pos pins s I => ha σ C1 H1 (S.go s1 E1) _ (fun ws C2 H2 s2 E2 al2 => ?_) pos pins s I⟩
    refine ⟨i, C2, B.g, hp, by rw [hW]; exact E2.rebase, by rw [List.append_nil, hi]; exact .cons rfl al2, fun v C' H' E' r => q v C' H' (s1.trans (s2.trans E'.cc)) (E2.back E') r⟩)
theorem methQ0_ {pl : Sem Bool} (c : C8.Met X.prog X.w X.K X.mg X.base k Cl m (spQ pre Wi ar Wi' Rr) []) (hr : Room n X.A) (hk : k ≤ n) (i : ι) (hp : pre i) (hW : Wi i = W) {q : Addr} (ho : Ev X B Γ W o (tyP q)) {jw : Nat} (hj : W[jw]? = some (q, cIns Cl fs)) (hi : ar i = [tyP q]) (hm : fs.lookup m = none)
    (ht : eval (.Call (.Attribute o m apos) [] [] pos) X.env = (do
      let ov ← eval o X.env
      standAt apos.atName
      let (f, first) ← holding [ov] (getMethod ov m pl)
      callWith pos f first (backTo pos (starEach [] X.env)) (backToKw pos (keywordEach [] X.env))))
    {σ : L2.St} {C H : Hp} (S : Stt B Γ W σ C H) {Q : VK} (q : ∀ v C' H', Same C C' → EntE B C' (Wi' i) H' → (Rr i).r v C' → Q v H') : sE X (.Call (.Attribute o m apos) [] [] pos) σ H Q :=
  toE (C8.pe_mt0 c hr hk pe_s ht) (ho σ C H S _ fun v C1 H1 s1 E1 r1 => by
    cases r1
    obtain ⟨o1, h1, _, dx, vs, rfl, al⟩ := E1.look hj
    exact ⟨_, dx, vs, rfl, h1, fls_none al hm, i, C1, B.g, hp, by rw [hW]; exact E1.rebase, by rw [hi]; exact .cons rfl .nil, fun v C' H' E' r => q v C' H' (s1.trans E'.cc) (E1.back E') r⟩)
theorem Ev.methQ {pl : Sem Bool} (c : C8.Met X.prog X.w X.K X.mg X.base k Cl m (spQ pre Wi ar Wi Rr) []) (hr : Room n X.A) (hk : k ≤ n) (i : ι) (hp : pre i) (hW : Wi i = W) {q : Addr} (jw : Nat) (ho : Ev X B Γ W o (tyP q)) (hj : W[jw]? = some (q, cIns Cl fs)) (ha : As X B Γ W (e :: es) Ts) (hi : ar i = tyP q :: Ts := by rfl) (hm : fs.lookup m = none := by rfl)
    (hst : starEach (e :: es) X.env = (false, eval e X.env) :: starEach es X.env := by rfl) (hpl : (backTo pos (starEach es X.env)).any (·.1) = false := by rfl)
    (ht : eval (.Call (.Attribute o m apos) (e :: es) [] pos) X.env = (do
      let ov ← eval o X.env
      standAt apos.atName
      let (f, first) ← holding [ov] (getMethod ov m pl)
      callWith pos f first (backTo pos (starEach (e :: es) X.env)) (backToKw pos (keywordEach [] X.env))) := by rfl) :
    Ev X B Γ W (.Call (.Attribute o m apos) (e :: es) [] pos) (Rr i) := fun σ C H S Q q => methQ_ c hr hk i hp hW ho hj ha hi hm hst hpl ht S fun v C' H' s E r => q v C' H' s (by rwa [hW] at E) r
theorem Ev.methQ0 {pl : Sem Bool} (c : C8.Met X.prog X.w X.K X.mg X.base k Cl m (spQ pre Wi ar Wi Rr) []) (hr : Room n X.A) (hk : k ≤ n) (i : ι) (hp : pre i) (hW : Wi i = W) {q : Addr} (jw : Nat) (ho : Ev X B Γ W o (tyP q)) (hj : W[jw]? = some (q, cIns Cl fs)) (hi : ar i = [tyP q] := by rfl) (hm : fs.lookup m = none := by rfl)
    (ht : eval (.Call (.Attribute o m apos) [] [] pos) X.env = (do
      let ov ← eval o X.env
      standAt apos.atName
      let (f, first) ← holding [ov] (getMethod ov m pl)
      callWith pos f first (backTo pos (starEach [] X.env)) (backToKw pos (keywordEach [] X.env))) := by rfl) :
    Ev X B Γ W (.Call (.Attribute o m apos) [] [] pos) (Rr i) := fun σ C H S Q q => methQ0_ c hr hk i hp hW ho hj hi hm ht S fun v C' H' s E r => q v C' H' s (by rwa [hW] at E) r
theorem Sj.methQ {pl : Sem Bool} (c : C8.Met X.prog X.w X.K X.mg X.base k Cl m (spQ pre Wi ar Wi' Rr) []) (hr : Room n X.A) (hk : k ≤ n) (i : ι) (hp : pre i) (hW : Wi i = W) {q : Addr} (jw : Nat) (ho : Ev X B Γ W o (tyP q)) (hj : W[jw]? = some (q, cIns Cl fs)) (ha : As X B Γ W (e :: es) Ts) (hrest : Sj X B Γ (Wi' i) rest D) (hi : ar i = tyP q :: Ts := by rfl) (hm : fs.lookup m = none := by rfl)
    (hs : swapsWith (.Call (.Attribute o m apos) (e :: es) [] pos) none spos.line X.env = pure false := by rfl)
    (hst : starEach (e :: es) X.env = (false, eval e X.env) :: starEach es X.env := by rfl) (hpl : (backTo pos (starEach es X.env)).any (·.1) = false := by rfl)
    (ht : eval (.Call (.Attribute o m apos) (e :: es) [] pos) X.env = (do
      let ov ← eval o X.env
      standAt apos.atName
      let (f, first) ← holding [ov] (getMethod ov m pl)
      callWith pos f first (backTo pos (starEach (e :: es) X.env)) (backToKw pos (keywordEach [] X.env))) := by rfl) :
    Sj X B Γ W (.Expr (.Call (.Attribute o m apos) (e :: es) [] pos) spos :: rest) D := fun σ C H S =>
  cons_ (ps_expr pe_s hs) (methQ_ c hr hk i hp hW ho hj ha hi hm hst hpl ht S fun v C' H' s E r => hrest σ C' H' ⟨S.sl.mono s, E⟩)
theorem bodyQ {P : Program} {w : World} {K : PySem.W.Frag} {mg : Str → Option Value} {base : Heap} {N : List Str} {qual : Str} {st : Stmt} {f : Addr} {k : Nat} {R : ι → Ty}
    (h : BodyT P w K mg base N qual st f k fun X => ∀ (i : ι) (B : Bs) (D : Ends), pre i → Fin B (Wi' i) (R i) D → (∀ σ C H, EntE B C (Wi' i) H → (R i).r .non C → D.nx σ H) → Sj X B (stG (ar i) N.length) (Wi i) (defBody st) D) :
    ∀ (cdv : Value) (A : Around) (outer : List Env) (s : Shared) (H : Hp) (vs : List V) (Q : VK) (E : XK), Room k (A.deeper (envOfC qual (defScope st) s.heap.objs.size f cdv)) → spQ pre Wi ar Wi' R vs H Q E →
      ∃ t, PSs (cxOf CX0 P w K mg base N qual (defScope st) f cdv A outer s H E).nox (defBody st) t ∧ t { nx := fun _ H' => Q .non H', rt := Q } (L2.start N vs) H := by
  rintro cdv A outer s H vs Q E hr ⟨i, C, g, hp, En, al, q⟩
  exact ⟨_, pb_s, h cdv A outer s H E hr i ⟨C, g⟩ _ hp (fun v C' H' E' r => q v C' H' E' r) (fun σ C' H' E' r => q .non C' H' E' r) _ C H ⟨sl_start al, En⟩⟩
theorem lenQ {R : ι → Ty} {n : Nat} (h : ∀ i, (ar i).length = n) : ∀ vs H Q E, spQ pre Wi ar Wi' R vs H Q E → vs.length = n := fun vs H Q E ⟨i, C, g, hp, En, al, q⟩ => by rw [← h i]; exact (Paired.length al).symm
/-- o.f = e, the field is there -/
theorem Sj.fldR {q : Addr} (jw : Nat) (hv : Ev X B Γ W value T) (ho : Ev X B Γ W o (tyP q)) (fs1 fs2 : List (Str × Ty)) {T0 : Ty} (hj : W[jw]? = some (q, cIns Cl (fs1 ++ (f, T0) :: fs2))) (c : Cls X.K Cl) (n : NoAttr X.K Cl f) (ns : List Str) (hr : Sj X B Γ (W.set jw (q, cIns Cl (fs1 ++ (f, T) :: fs2))) rest D) (hns : fs1.map (·.1) = ns := by rfl) (hf : f ∉ ns := by decide +kernel) (hl : (fs1 ++ (f, T0) :: fs2).length < 1000 := by exact Nat.lt_of_lt_of_le (show _ < 8 by decide) (by decide))
    (hs : swapsWith value (some (.Attribute o f pos')) spos.line X.env = pure false := by rfl) : Sj X B Γ W (.Assign [.Attribute o f pos'] value spos :: rest) D := fun σ C H S =>
  cons_ (ps_fld pe_s pe_s hs) (hv σ C H S _ fun v C1 H1 s1 E1 r1 => ho σ C1 H1 (S.go s1 E1) _ fun w C2 H2 s2 E2 r2 => by
    cases r2
    obtain ⟨o1, h1, _, dx, vs, rfl, al⟩ := E2.look hj
    refine ⟨q, Cl, dx, vs, rfl, h1, c, n, by rw [← fls_len al]; exact hl, hr σ C2 _ ⟨S.sl.mono (s1.trans s2), E2.put hj trivial ⟨dx, _, rfl, ?_⟩⟩⟩
    have e : ∀ {fs1 : List (Str × Ty)}, (∀ g ∈ fs1.map (·.1), g ≠ f) → fput f T (fs1 ++ (f, T0) :: fs2) = fs1 ++ (f, T) :: fs2 := fun {fs1} h => by
      induction fs1 with
      | nil => show (if f = f then _ else _) = _; rw [if_pos rfl]; rfl
      | cons q fs ih =>
        obtain ⟨g, t⟩ := q
        show (if g = f then _ else _) = _
        rw [if_neg (h g (by simp))]
        show (g, t) :: fput f T (fs ++ (f, T0) :: fs2) = _
        rw [ih fun g hg => h g (by simp at hg ⊢; exact .inr hg)]
        rfl
    rw [← e fun g hg z => hf (by rw [← hns, ← z]; exact hg)]
    exact fls_put al (T.mono s2 r1))
/-- o[i] = e, an owned list of ints at a place -/
theorem Sj.setItem {q : Addr} {z : Nat} (jw : Nat) (hv : Ev X B Γ W value T) (ho : Ev X B Γ W o (tyP q)) (hj : W[jw]? = some (q, cLst Ts)) (hi : Ev X B Γ W e (tyI (z : Int))) (hz : z < Ts.length) (hr : Sj X B Γ (W.set jw (q, cLst (Ts.set z T))) rest D)
    (hsub : ∀ v, assign (.Subscript o e pos') X.env v = (do
      let ov ← holding [v] (eval o X.env)
      let iv ← holding [v, ov] (eval e X.env)
      standAt pos'
      holding [v, ov, iv] (setItem ov iv v)
      release [v, ov, iv] []) := by intro _; rfl)
    (hs : swapsWithSole [.Subscript o e pos'] value spos.line X.env = pure false := by rfl) (hw : swappedStores [.Subscript o e pos'] value X.env = pure none := by rfl)
    (h1 : (assignEach [.Subscript o e pos'] X.env).map (·.2) = [assign (.Subscript o e pos') X.env] := by rfl) : Sj X B Γ W (.Assign [.Subscript o e pos'] value spos :: rest) D := fun σ C H S =>
  cons_ (ps_asg pe_s (pg_sub pe_s pe_s set_list hsub) hs hw h1) (hv σ C H S _ fun v C1 H1 s1 E1 r1 => ho σ C1 H1 (S.go s1 E1) _ fun w C2 H2 s2 E2 r2 => hi σ C2 H2 (S.go (s1.trans s2) E2) _ fun y C3 H3 s3 E3 r3 => by
    cases r2
    obtain ⟨o1, h1, _, vs, rfl, al⟩ := E3.look hj
    have hl := Paired.length al
    refine ⟨q, vs, (z : Int), z, rfl, r3, h1, ?_, hr σ C3 _ ⟨S.sl.mono (s1.trans (s2.trans s3)), E3.put hj trivial ⟨_, rfl, als_set al (T.mono (s2.trans s3) r1) z⟩⟩⟩
    unfold ixN
    rw [if_pos (by omega), if_pos (by omega)]; rfl)
/-- a comprehension's new list, owned -/
theorem lcO {α : Type} {xs : List α} {Rx : α → Ty} {Ro : α → Ty} {is vs : List Nat} {Tx : α → List Ty} {wi : TI} {scope : Scope}
    (hi : ∀ (σ : L2.St) (C H : Hp), Stt B Γ W σ C H → ∀ R : It → Hp → Prop, (∀ J C' H', Same C C' → EntE B C' W H' → Wk B J C' (xs.map Rx) → R J H') → wi σ H R)
    (hg : ∀ x s0 H0 Cc cl fp, Gv (Bk X scope s0 H0 Cc cl fp) tg (Rx x) is (Tx x)) (hv : ∀ i ∈ is, i ∈ vs) (hl : xs.length < sizeLine)
    (he : ∀ x ∈ xs, ∀ s0 H0 Cc cl fp D K, Ev (Bk X scope s0 H0 Cc cl fp) B (setG (wipeG Γ vs) is (Tx x)) (W ++ [(D, K)]) elt (Ro x))
    {σ : L2.St} {C H : Hp} (S : Stt B Γ W σ C H) {Q : VK} (k : ∀ D C' H', Same C C' → EntE B C' (W ++ [(D, cLst (xs.map Ro))]) H' → Q (.ref D) H') : tLc wi (tgA X scope tg) tYes (teA X scope elt) vs σ H Q := by
  refine hi σ C H S _ fun J C1 H1 s1 E1 wk D hD => ?_
  have w : Walk J xs.length (fun H => ∃ C W', Same C1 C ∧ EntE B C W' H) (fun i H v H' => J.yld i H v H') :=
    ⟨fun i H hi ⟨C, W', s, E⟩ => wk.goes i C H W' (by rw [List.length_map]; exact hi) s E, fun H ⟨C, W', s, E⟩ => by have := wk.stops C H W' s E; rwa [List.length_map] at this, fun _ _ _ _ _ _ y => y⟩
  refine lc_it w (fun n H => ∃ C, Same C1 C ∧ EntE B C (W ++ [(D, cLst ((xs.take n).map Ro))]) H) ⟨C1, Same.refl _, by rw [List.take_zero]; exact E1.own hD trivial ⟨[], rfl, .nil⟩⟩ (fun n H _ ⟨C, s, E⟩ => ⟨C, _, s, E⟩) (fun n v H2 H3 hn ⟨C2, s2, E2⟩ y => ?_) (fun H2 ⟨C2, s2, E2⟩ => ?_)
  · have hx : xs[n]? = some xs[n] := by rw [List.getElem?_eq_getElem hn]
    generalize hxe : xs[n] = x at hx
    have hm : x ∈ xs := List.mem_of_getElem? hx
    obtain ⟨C3, s3, E3, rv⟩ := wk.yields n C2 H2 _ v H3 (Rx x) (by rw [List.getElem?_map, hx]; rfl) s2 E2 y
    have ht : xs.take (n + 1) = xs.take n ++ [x] := by rw [List.take_succ, hx]; rfl
    intro s0 H0 Cc cl fp
    obtain ⟨g, pg, qg⟩ := hg x s0 H0 Cc cl fp
    intro pins s u I ru
    refine pg.run pins s _ H3 v u _ I ru (qg B _ _ C3 H3 v _ E3 rv fun ws al => ?_)
    refine ⟨by rw [wipe_setS hv, wipe_wipe fun _ h => h], ?_⟩
    unfold tYes
    dsimp only
    rw [if_pos rfl]
    intro s0 H0 Cc cl fp
    have S3 : Stt B (setG (wipeG Γ vs) is (Tx x)) (W ++ [(D, cLst ((xs.take n).map Ro))]) (setS (wipe σ vs) is ws) C3 H3 := ⟨sl_set al (sl_wipe (S.sl.mono (s1.trans (s2.trans s3))) vs), E3⟩
    refine he x hm s0 H0 Cc cl fp D _ _ C3 H3 S3 _ fun z C5 H5 s5 E5 rz => ?_
    obtain ⟨o, ho, _, vs', eo, al'⟩ := E5.look (app_last W _)
    subst eo
    refine ⟨vs', ho, ?_, C5, s2.trans (s3.trans s5), ?_⟩
    · rw [← Paired.length al', List.length_map, List.length_take]; omega
    · have := E5.put (K' := cLst ((xs.take (n + 1)).map Ro)) (o' := .lst (vs' ++ [z])) (app_last W _) trivial ⟨_, rfl, by rw [ht, List.map_append]; exact Paired.app al' (.cons rz .nil)⟩
      rwa [app_set] at this
  · rw [List.take_length] at E2
    exact k D C2 H2 (s1.trans s2) E2
/-- o.f = [..], the new list is owned -/
theorem Sj.fldLc {α : Type} {xs : List α} {Rx : α → Ty} {Ro : α → Ty} {is : List Nat} {Tx : α → List Ty} {scope : Scope} {q : Addr} (jw : Nat) (own : List (Str × Nat)) (hcalm : X.calm = true) (nd : X.N.Nodup)
    (hi : Iv X B Γ W tg iter (xs.map Rx)) (ok : BlkOk X.N X.env.scope scope own)
    (hg : ∀ x s0 H0 Cc cl fp, Gv (Bk X scope s0 H0 Cc cl fp) tg (Rx x) is (Tx x)) (hv : ∀ i ∈ is, i ∈ own.map (·.2)) (hl : xs.length < sizeLine)
    (he : ∀ x ∈ xs, ∀ s0 H0 Cc cl fp D K, Ev (Bk X scope s0 H0 Cc cl fp) B (setG (wipeG Γ (own.map (·.2))) is (Tx x)) (W ++ [(D, K)]) elt (Ro x))
    (ho : ∀ W', Ev X B Γ W' o (tyP q)) (hj : W[jw]? = some (q, cIns Cl fs)) (c : Cls X.K Cl) (n : NoAttr X.K Cl f) (ns : List Str) (hr : ∀ z, Sj X B Γ ((W.set jw (q, cIns Cl (fs ++ [(f, tyP z)]))) ++ [(z, cLst (xs.map Ro))]) rest D) (hns : fs.map (·.1) = ns := by rfl) (hf : f ∉ ns := by decide +kernel) (hl2 : ns.length < 1000 := by decide +kernel)
    (hs : swapsWith (.ListComp elt [⟨tg, iter, [], 0⟩] scope pos) (some (.Attribute o f pos')) spos.line X.env = pure false := by rfl) (hs2 : ∀ x, foldedSetIterable iter X.env x = pure x := by intro _; rfl) :
    Sj X B Γ W (.Assign [.Attribute o f pos'] (.ListComp elt [⟨tg, iter, [], 0⟩] scope pos) spos :: rest) D := fun σ C H S => by
  obtain ⟨wi, pi, qi⟩ := hi
  refine cons_ (ps_fld pe_s (pe_lc (own := own) (g := tgA X scope tg) (tt := tYes) (te := teA X scope elt) hcalm nd pi ok (fun s0 H0 Cc cl fp => ⟨fun pins s σ H v u Q I r h => h s0 H0 Cc cl fp pins s u I r⟩) (fun s0 H0 Cc cl fp => pts_nil) (fun s0 H0 Cc cl fp => ⟨fun pins s σ H Q I h => h s0 H0 Cc cl fp pins s I⟩) hs2) hs) ?_
  refine lcO qi hg hv hl he S fun z C1 H1 s1 E1 => ?_
  have hj1 : (W ++ [(z, cLst (xs.map Ro))])[jw]? = some (q, cIns Cl fs) := by rw [List.getElem?_append_left (List.getElem?_eq_some_iff.mp hj).1]; exact hj
  refine ho _ σ C1 H1 ⟨S.sl.mono s1, E1⟩ _ fun w C2 H2 s2 E2 r2 => ?_
  cases r2
  obtain ⟨o1, h1, _, dx, vs, rfl, al⟩ := E2.look hj1
  have hn : ∀ g ∈ fs.map (·.1), g ≠ f := fun g hg z => hf (by rw [← hns, ← z]; exact hg)
  refine ⟨q, Cl, dx, vs, rfl, h1, c, n, by rw [← fls_len al, ← List.length_map (f := (·.1)), hns]; exact hl2, hr z σ C2 _ ⟨S.sl.mono (s1.trans s2), ?_⟩⟩
  have e : ∀ {fs : List (Str × Ty)}, (∀ g ∈ fs.map (·.1), g ≠ f) → fput f (tyP z) fs = fs ++ [(f, tyP z)] := fun {fs} h => by
    induction fs with
    | nil => rfl
    | cons q fs ih =>
      obtain ⟨g, t⟩ := q
      show (if g = f then _ else _) = _
      rw [if_neg (h g (by simp)), ih fun g hg => h g (by simp at hg ⊢; exact .inr hg)]
      rfl
  have E3 := E2.put (K' := cIns Cl (fs ++ [(f, tyP z)])) (o' := .ins Cl dx (putF f (.ref z) vs)) hj1 trivial ⟨dx, _, rfl, by rw [← e hn]; exact fls_put al rfl⟩
  rwa [List.set_append_left _ _ (List.getElem?_eq_some_iff.mp hj).1] at E3
end
end MJ
set_option maxHeartbeats 4000000
/-! defs: the table of a packing, the solver's small methods. -/
namespace MF
open PySem PySem.Spec L2 MT MJ
open PyProof.Rows hiding St
abbrev rowT (r : List Int) : Ty := tyLst (r.map tyI)
abbrev matT (m : MK.Mat) : Ty := tyLst (m.map rowT)
theorem ati_nat {α : Type} {Ts : List α} {j : Nat} {T : α} (h : Ts[j]? = some T) : atI Ts (j : Int) = some T := atI_nat h
theorem ati_last {α : Type} {Ts : List α} {T : α} (h : Ts[Ts.length - 1]? = some T) : atI Ts (-1) = some T := by
  have hl : 0 < Ts.length := by
    have := (List.getElem?_eq_some_iff.mp h).1
    omega
  unfold atI ixN
  rw [if_neg (by decide), if_pos (by omega)]
  have e : ((-1 : Int) + (Ts.length : Int)).toNat = Ts.length - 1 := by omega
  rw [e]; exact h
theorem cut_last {α : Type} (xs : List α) : cutA xs none (some (-1)) = xs.dropLast := by
  unfold cutA
  rw [HT.sIx_none, List.drop_zero, Nat.sub_zero, List.dropLast_eq_take]
  congr 1
  unfold HT.sIx
  simp only
  split <;> omega
section
variable {P : Program} {w : World} {K : PySem.W.Frag} {mg : Str → Option Value} {base : Heap}
abbrev NTb : List Str := ["self", "many", "sides", "ends", "rows", "at", "side", "own", "slack", "place", "_", "other"]
theorem sc_tab : FnScope NTb ["self"] (defScope s_packing_table) := ⟨rfl, rfl, rfl, by decide +kernel, rfl, by decide +kernel, by decide +kernel⟩
structure TabOk (d : PkD) : Prop where
  t : d.texts.length ≤ 1000
  g : d.groups.length ≤ 1000
  b : d.bounds.length = d.texts.length
abbrev pkS (d : PkD) : List (List Nat) := MK.sidesF d.texts.length d.groups
abbrev pkE (d : PkD) : List Int := MK.endsF d.bounds d.level d.groups.length
abbrev sp_tab (K : PySem.W.Frag) : Sp := spP TabOk (fun d => [tyO (CPacking K) (pkFs d)]) (fun d => matT (MK.tabF d.texts.length (pkS d) (pkE d)))
theorem range_map_const {α β : Type} (l : List α) (c : β) : (l.map fun _ => c) = (List.range l.length).map fun _ => c := by
  rw [List.map_const', List.map_const', List.length_range]
theorem f_tab (T : Tx K mg) : C8.Met P w K mg base 1 (CPacking K) "table" (sp_tab K) [] :=
  mkMet T.cPacking T.mPacking_table T.d_packing_table sc_tab (fun _ _ _ _ _ _ us hl => match us, hl with | [_], _ => rfl) (lenP fun _ => rfl) (bodyP fun cdv A outer s H E hr d B D hp fin _ => by
    have h1 := hp.t
    have h2 := hp.g
    have hb := hp.b
    have hsl : (pkS d).length = d.texts.length + d.groups.length := MK.sides_len
    have hel : (pkE d).length = d.texts.length + d.groups.length := by unfold pkE MK.endsF; simp; omega
    have blk : ∀ {sc : Scope} {own : List (Str × Nat)}, blkC NTb (defScope s_packing_table) sc own = true → BlkOk NTb (defScope s_packing_table) sc own := fun h => blkOk_by h
    refine Sj.set 1 sc_tab.nd (lenT T.f_len (Lv.core (Ev.fld (Lv.core (Ev.v 0 rfl)) T.cPacking T.nPacking_texts))) ?_
    rw [List.length_map]
    refine Sj.set 2 sc_tab.nd (Ev.eq (Ev.addL (Ev.lc [("place", 9)] rfl sc_tab.nd (Iv.range T.f_range (Ev.v 1 rfl) (by omega) (by omega)) (blkOk_by (N := NTb) (sc := defScope s_packing_table) (by decide +kernel)) (fun x s0 H0 Cc cl fp => gName 9 sc_tab.nd) (by decide) (by rw [List.length_range]; exact small1000 (by omega))
      (Ro := fun k => tyTup [tyI ((k : Nat) : Int)]) (fun k hk s0 H0 Cc cl fp D K => Ev.tup (As.cons (Ev.v 9 rfl) As.nil))) (Ev.fld (Lv.core (Ev.v 0 rfl)) T.cPacking T.nPacking_groups) ?_) (R' := tyLst ((pkS d).map grT)) ?_) ?_
    · rw [List.length_map, List.length_range, List.length_map]
      exact Nat.le_of_lt (Nat.lt_of_le_of_lt (show _ ≤ 2000 by omega) (by rw [sizeLine_eq]; decide))
    · unfold pkS MK.sidesF
      rw [List.map_append, List.map_map]; rfl
    refine Sj.set 3 sc_tab.nd (Ev.eq (Ev.addL (Ev.fld (Lv.core (Ev.v 0 rfl)) T.cPacking T.nPacking_bounds) (Ev.lc [("_", 10)] rfl sc_tab.nd (Iv.list (Ev.fld (Lv.core (Ev.v 0 rfl)) T.cPacking T.nPacking_groups)) (blkOk_by (N := NTb) (sc := defScope s_packing_table) (by decide +kernel)) (fun x s0 H0 Cc cl fp => gName 10 sc_tab.nd) (by decide) (small1000 h2)
      (Ro := fun _ => tyI d.level) (fun k hk s0 H0 Cc cl fp D K => Ev.fld (Lv.core (Ev.v 0 rfl)) T.cPacking T.nPacking_level)) ?_) (R' := rowT (pkE d)) ?_) ?_
    · rw [List.length_map, List.length_map]
      exact Nat.le_of_lt (Nat.lt_of_le_of_lt (show _ ≤ 2000 by omega) (by rw [sizeLine_eq]; decide))
    · unfold pkE MK.endsF
      rw [range_map_const d.groups (tyI d.level)]
      show _ = tyLst ((d.bounds ++ (List.range d.groups.length).map fun _ => d.level).map tyI)
      rw [List.map_append, List.map_map]; rfl
    refine Sj.newL 4 sc_tab.nd fun q => ?_
    refine Sj.for_ rfl PassesOwn.never (Iv.enumM T.f_enumerate (Ev.v 2 rfl)) (fun x => gLt rfl (gLc (gName 5 sc_tab.nd) (gLc (gName 6 sc_tab.nd) gL0)))
      (fun n => [some (tyO (CPacking K) (pkFs d)), some (tyI (d.texts.length : Nat)), some (tyLst ((pkS d).map grT)), some (rowT (pkE d)), some (tyP q), none, none, none, none, none, none, none]) (fun n => [(q, cLst (((List.range n).map (MK.rowF d.texts.length (pkS d) (pkE d))).map rowT))]) (.k (.k (.k (.k (.k (.d (.d (.d (.d (.d (.d (.d .n)))))))))))) (Wc.refl _) (fun B' _ _ _ n z hn => ?_) ?_
    · obtain ⟨hx, rfl⟩ := zip_at hn
      obtain ⟨l, n⟩ := z
      have hn2 : n < (pkS d).length := (List.getElem?_eq_some_iff.mp hx).1
      have hl : (pkS d).getD n [] = l := by rw [List.getD_eq_getElem?_getD, hx]; rfl
      refine Sj.setLc 7 [("place", 9)] rfl sc_tab.nd (Iv.range T.f_range (Ev.v 1 rfl) (by omega) (by omega)) (blkOk_by (N := NTb) (sc := defScope s_packing_table) (by decide +kernel)) (fun x s0 H0 Cc cl fp => gName 9 sc_tab.nd) (by decide) (by rw [List.length_range]; exact small1000 (by omega))
        (Ro := fun k => tyI (if decide (((k : Nat) : Int) ∈ l.map fun j : Nat => (j : Int)) then 1 else 0)) (fun k hk s0 H0 Cc cl fp D K => intB T.f_int (EinI (g := fun j : Nat => (j : Int)) (Ev.v 9 rfl) (Lv.core (Ev.v 6 rfl)) (scalT fun j : Nat => V.int (j : Int)))) ?_
      refine Sj.setLc 8 [("other", 11)] rfl sc_tab.nd (Iv.range T.f_range (lenL T.f_len (Lv.core (Ev.v 2 rfl))) (by rw [List.length_map]; omega) (by omega)) (blkOk_by (N := NTb) (sc := defScope s_packing_table) (by decide +kernel)) (fun x s0 H0 Cc cl fp => gName 11 sc_tab.nd) (by decide) (by rw [List.length_range, List.length_map]; exact Nat.lt_of_le_of_lt (show _ ≤ 2000 by omega) (by rw [sizeLine_eq]; decide))
        (Ro := fun k => tyI (if decide (((k : Nat) : Int) = (n : Int)) then 1 else 0)) (fun k hk s0 H0 Cc cl fp D K => intB T.f_int (Ev.eqI (Ev.v 11 rfl) (Ev.v 5 rfl))) ?_
      refine Sj.append 0 (Ev.v 4 rfl) rfl (Ev.addL (Ev.addL (Ev.v 7 rfl) (Ev.v 8 rfl) ?_) (Ev.lst (As.cons (ixl (Lv.core (Ev.v 3 rfl)) (Ev.v 5 rfl) (T := tyI ((pkE d).getD n 0)) (ati_nat ?_)) As.nil)) ?_) ?_ (Sj.at (.k (.k (.k (.k (.k (.d (.d (.d (.d (.d (.d (.d .n)))))))))))) (.c (fun o C h => ?_) .n))
      · simp only [List.length_map, List.length_range]
        exact Nat.le_of_lt (Nat.lt_of_le_of_lt (show _ ≤ 4000 by omega) (by rw [sizeLine_eq]; decide))
      · rw [List.getElem?_map, List.getD_eq_getElem?_getD, List.getElem?_eq_getElem (by omega)]; rfl
      · simp only [List.length_append, List.length_map, List.length_range, List.length_cons, List.length_nil]
        exact Nat.le_of_lt (Nat.lt_of_le_of_lt (show _ ≤ 4001 by omega) (by rw [sizeLine_eq]; decide))
      · rw [List.length_map, List.length_map, List.length_range]
        exact Nat.lt_of_le_of_lt (show _ ≤ 4000 by omega) (by rw [sizeLine_eq]; decide)
      · have e : ((List.range (n + 1)).map (MK.rowF d.texts.length (pkS d) (pkE d))).map rowT = ((List.range n).map (MK.rowF d.texts.length (pkS d) (pkE d))).map rowT ++ [tyLst ((((List.range (d.texts.length : Int).toNat).map fun k => tyI (if decide (((k : Nat) : Int) ∈ l.map fun j : Nat => (j : Int)) then 1 else 0)) ++ ((List.range ((((pkS d).map grT).length : Int)).toNat).map fun k => tyI (if decide (((k : Nat) : Int) = (n : Int)) then 1 else 0))) ++ [tyI ((pkE d).getD n 0)])] := by
          rw [List.range_succ, List.map_append, List.map_append]
          congr 1
          show [rowT (MK.rowF d.texts.length (pkS d) (pkE d) n)] = _
          congr 1
          unfold MK.rowF
          show tyLst (List.map tyI _) = _
          rw [List.map_append, List.map_append, List.map_map, List.map_map, hl, Int.toNat_natCast, Int.toNat_natCast, List.length_map]
          refine congrArg tyLst (congrArg (fun z => z ++ [tyI ((pkE d).getD n 0)]) (congr (congrArg HAppend.hAppend ?_) ?_))
          · refine List.map_congr_left fun k _ => ?_
            show tyI (if k ∈ l then 1 else 0) = tyI (if decide (((k : Nat) : Int) ∈ l.map fun j : Nat => (j : Int)) = true then 1 else 0)
            have : ((k : Nat) : Int) ∈ l.map (fun j : Nat => (j : Int)) ↔ k ∈ l := by
              rw [List.mem_map]
              exact ⟨fun ⟨j, hj, e⟩ => by have : j = k := by omega
                                          exact this ▸ hj, fun h => ⟨k, h, rfl⟩⟩
            by_cases hk : k ∈ l
            · rw [if_pos hk, if_pos (decide_eq_true (this.mpr hk))]
            · rw [if_neg hk, if_neg (by rw [decide_eq_false (fun z => hk (this.mp z))]; decide)]
          · refine List.map_congr_left fun k _ => ?_
            show tyI (if k = n then 1 else 0) = tyI (if decide (((k : Nat) : Int) = (n : Int)) = true then 1 else 0)
            by_cases hk : k = n
            · rw [if_pos hk, if_pos (decide_eq_true (by omega))]
            · rw [if_neg hk, if_neg (by rw [decide_eq_false (by omega)]; decide)]
        show (cLst (((List.range (n + 1)).map (MK.rowF d.texts.length (pkS d) (pkE d))).map rowT)).r o C
        rw [e]; exact h
    have hzl : (pkS d).zipIdx.length = (pkS d).length := List.length_zipIdx
    rw [hzl]
    refine Sj.append 0 (Ev.v 4 rfl) rfl (Ev.addL (Ev.lc [("_", 10)] rfl sc_tab.nd (Iv.range T.f_range (Ev.v 1 rfl) (by omega) (by omega)) (blkOk_by (N := NTb) (sc := defScope s_packing_table) (by decide +kernel)) (fun x s0 H0 Cc cl fp => gName 10 sc_tab.nd) (by decide) (by rw [List.length_range]; exact small1000 (by omega)) (Ro := fun _ => tyI (-1)) (fun k hk s0 H0 Cc cl fp D K => Ev.neg Ev.int))
      (Ev.lc [("_", 10)] rfl sc_tab.nd (Iv.range T.f_range (Ev.add (lenL T.f_len (Lv.core (Ev.v 2 rfl))) Ev.int) (by rw [List.length_map]; omega) (by omega)) (blkOk_by (N := NTb) (sc := defScope s_packing_table) (by decide +kernel)) (fun x s0 H0 Cc cl fp => gName 10 sc_tab.nd) (by decide) (by rw [List.length_range, List.length_map]; exact Nat.lt_of_le_of_lt (show _ ≤ 4000 by omega) (by rw [sizeLine_eq]; decide)) (Ro := fun _ => tyI 0) (fun k hk s0 H0 Cc cl fp D K => Ev.int)) ?_) ?_ ?_
    · simp only [List.length_map, List.length_range]
      exact Nat.le_of_lt (Nat.lt_of_le_of_lt (show _ ≤ 4000 by omega) (by rw [sizeLine_eq]; decide))
    · rw [List.length_map, List.length_map, List.length_range]
      exact Nat.lt_of_le_of_lt (show _ ≤ 4000 by omega) (by rw [sizeLine_eq]; decide)
    refine Sj.freeze 0 4 rfl rfl (Sj.ret (Ev.v 4 rfl) fin (fun v C h => ?_) .n)
    have e : (MK.tabF d.texts.length (pkS d) (pkE d)).map rowT = ((List.range (pkS d).length).map (MK.rowF d.texts.length (pkS d) (pkE d))).map rowT ++ [tyLst (((List.range (d.texts.length : Int).toNat).map fun _ => tyI (-1)) ++ ((List.range ((((pkS d).map grT).length : Int) + 1).toNat).map fun _ => tyI 0))] := by
      unfold MK.tabF MK.lastF
      rw [List.map_append]
      congr 1
      show [rowT _] = _
      congr 1
      show tyLst (List.map tyI _) = _
      rw [List.map_append, List.map_map, List.map_map, List.length_map, Int.toNat_natCast]
      rw [show (((pkS d).length : Int) + 1).toNat = (pkS d).length + 1 by omega]; rfl
    show (tyLst ((MK.tabF d.texts.length (pkS d) (pkE d)).map rowT)).r v C
    rw [e]; exact h)
end
end MF
set_option maxHeartbeats 4000000
/-! defs: the solver. -/
namespace MF
open PySem PySem.Spec L2 MT MJ
open PyProof.Rows hiding St
open MK (Mat SolS Shape ent risingF boundF betterF exchF lineF)
abbrev svF (x : SolS) (b : Ty) : List (Str × Ty) := [("rows", matT x.rows), ("divisor", tyI x.dv), ("basis", b)]
abbrev svW (K : PySem.W.Frag) (p q : Addr) (x : SolS) : Wl := [(p, cIns (CSolver K) (svF x (tyP q))), (q, cLst (natT x.basis))]
structure SvI where
  p : Addr
  q : Addr
  x : SolS
  m : Nat
  n : Nat
  c : Nat := 0
  r : Nat := 0
structure SvOk (i : SvI) : Prop where
  sh : Shape i.x.rows i.m i.n
  bl : i.x.basis.length = i.m
  cn : i.c < i.n + 1
  rm : i.m = 0 ∨ i.r < i.m
  mb : i.m ≤ 1000
  nb : i.n ≤ 2000
  dp : 0 < i.x.dv
  db : Lb 4000 i.x.dv
  eb : ∀ a b, a < i.m + 1 → b < i.n + 1 → Lb 4000 (ent i.x.rows a b)
section
variable {rows : Mat} {m n : Nat}
theorem row_at (h : Shape rows m n) {i : Nat} (hi : i < m + 1) : (rows.map rowT)[i]? = some (rowT (rows.getD i [])) := by rw [List.getElem?_map, h.at hi]; rfl
theorem ent_at (h : Shape rows m n) {i j : Nat} (hi : i < m + 1) (hj : j < n + 1) : ((rows.getD i []).map tyI)[j]? = some (tyI (ent rows i j)) := by rw [List.getElem?_map, h.ent hi hj]; rfl
theorem ent_last (h : Shape rows m n) {i : Nat} (hi : i < m + 1) : atI ((rows.getD i []).map tyI) (-1) = some (tyI (ent rows i n)) := by
  refine ati_last ?_
  rw [List.length_map, h.row hi]
  exact ent_at h hi (Nat.lt_succ_self n)
theorem row_last (h : Shape rows m n) : atI (rows.map rowT) (-1) = some (rowT (rows.getD m [])) := by
  refine ati_last ?_
  rw [List.length_map, h.len]
  exact row_at h (Nat.lt_succ_self m)
end
section
variable {P : Program} {w : World} {K : PySem.W.Frag} {mg : Str → Option Value} {base : Heap}
theorem sc_rising : FnScope ["self", "column", "entry"] ["self"] (defScope s_solver_rising) := ⟨rfl, rfl, rfl, by decide +kernel, rfl, by decide +kernel, by decide +kernel⟩
abbrev sp_rising (K : PySem.W.Frag) : Sp := spQ SvOk (fun i => svW K i.p i.q i.x) (fun i => [tyP i.p]) (fun i => svW K i.p i.q i.x) (fun i => optT (risingF i.x.rows))
theorem f_rising (T : Tx K mg) : C8.Met P w K mg base 1 (CSolver K) "rising" (sp_rising K) [] :=
  mkMet T.cSolver T.mSolver_rising T.d_solver_rising sc_rising (fun _ _ _ _ _ _ us hl => match us, hl with | [_], _ => rfl) (lenQ fun _ => rfl) (bodyQ fun cdv A outer s H E hr i B D hp fin finN => by
    have hsh := hp.sh
    have hrw : i.x.rows.getLastD [] = i.x.rows.getD i.m [] := hsh.last
    generalize hL : (i.x.rows.getD i.m []).dropLast = L
    have hF : risingF i.x.rows = L.findIdx? fun e => decide (e < 0) := by unfold risingF; rw [hrw, hL]
    refine Sj.forE (ι := Unit) (xs := L.zipIdx) (Rx := fun q => tyTup [tyI ((q.2 : Nat) : Int), tyI q.1]) rfl PassesOwn.never
      (Iv.enumM (xs := L) (Rx := tyI) T.f_enumerate (Ev.eq (slicel (ixl (Lv.core (Ev.fld (Lv.own 0 (Ev.v 0 rfl) rfl) T.cSolver T.nSolver_rows)) (Ev.neg Ev.int) (row_last hsh)) Po.none (Po.some (Ev.neg Ev.int))) (by rw [cut_last, ← List.map_dropLast, hL]))) (fun x => gLt rfl (gLc (gName 1 sc_rising.nd) (gLc (gName 2 sc_rising.nd) gL0)))
      (fun n _ => ∀ j e, j < n → L[j]? = some e → ¬ e < 0) (fun _ _ => [some (tyP i.p), none, none]) (fun _ _ => svW K i.p i.q i.x) () (fun j e hj => absurd hj (Nat.not_lt_zero _)) (.k (.d (.d .n))) (Wc.refl _) (fun B' hfin n z hn _ hI => ?_) (fun _ hI => ?_)
    · obtain ⟨hx, rfl⟩ := zip_at hn
      obtain ⟨e, n⟩ := z
      refine Sj.if_ (Tv.lt (Ev.v 2 rfl) Ev.int) (fun h => ?_) (fun h => ?_)
      · have h : e < 0 := of_decide_eq_true h.symm
        refine Sj.ret (Ev.v 1 rfl) (hfin _ _ fin) (fun v C hv => ?_) (Wc.refl _)
        have hf : risingF i.x.rows = some n := by
          rw [hF, List.findIdx?_eq_some_iff_getElem]
          obtain ⟨hl, he⟩ := List.getElem?_eq_some_iff.mp hx
          refine ⟨hl, by rw [he]; exact decide_eq_true h, fun j hj => ?_⟩
          have := hI j _ hj (List.getElem?_eq_getElem (by omega))
          simpa using this
        show (optT (risingF i.x.rows)).r v C
        rw [hf]; exact hv
      · have hneg : ¬ e < 0 := of_decide_eq_false h.symm
        refine Sj.go ?_ rfl
        refine Sj.nil fun σ C H S => ⟨(), fun j e' hj he' => ?_, C, S.ws (.k (.d (.d .n))) (Wc.refl _)⟩
        by_cases hjn : j = n
        · subst hjn
          have hx : L[j]? = some e := hx
          rw [hx] at he'; cases he'; exact hneg
        · exact hI j e' (by omega) he'
    · refine Sj.ret Ev.non fin (fun v C hv => ?_) (Wc.refl _)
      have hf : risingF i.x.rows = none := by
        rw [hF, List.findIdx?_eq_none_iff]
        intro e he
        obtain ⟨j, hj⟩ := List.getElem?_of_mem he
        have := hI j e (by rw [List.length_zipIdx]; exact (List.getElem?_eq_some_iff.mp hj).1) hj
        simpa using this
      show (optT (risingF i.x.rows)).r v C
      rw [hf]; exact hv)
theorem sc_bounding : FnScope ["self", "column", "best", "at", "row", "one", "other"] ["self", "column"] (defScope s_solver_bounding) := ⟨rfl, rfl, rfl, by decide +kernel, rfl, by decide +kernel, by decide +kernel⟩
abbrev sp_bounding (K : PySem.W.Frag) : Sp := spQ SvOk (fun i => svW K i.p i.q i.x) (fun i => [tyP i.p, tyI (i.c : Int)]) (fun i => svW K i.p i.q i.x) (fun i => optT (boundF i.x.rows i.x.basis i.n i.c i.m))
theorem bound_lt {rows : Mat} {basis : List Nat} {n c : Nat} : ∀ (q b : Nat), boundF rows basis n c q = some b → b < q
  | 0, b, h => by cases h
  | q + 1, b, h => by
    unfold boundF at h
    split at h
    · split at h
      · cases h; exact Nat.lt_succ_self _
      · rename_i b' hb
        split at h
        · cases h; exact Nat.lt_succ_self _
        · cases h; exact Nat.lt_succ_of_lt (bound_lt q _ hb)
    · exact Nat.lt_succ_of_lt (bound_lt q b h)
theorem f_bounding (T : Tx K mg) : C8.Met P w K mg base 1 (CSolver K) "bounding" (sp_bounding K) [] :=
  mkMet T.cSolver T.mSolver_bounding T.d_solver_bounding sc_bounding (fun _ _ _ _ _ _ us hl => match us, hl with | [_, _], _ => rfl) (lenQ fun _ => rfl) (bodyQ fun cdv A outer s H E hr i B D hp fin finN => by
    have hsh := hp.sh
    have hcn := hp.cn
    have hlen := hsh.len
    refine Sj.set 2 sc_bounding.nd Ev.non ?_
    refine Sj.for_ (xs := (i.x.rows.dropLast).zipIdx) (Rx := fun q => tyTup [tyI ((q.2 : Nat) : Int), rowT q.1]) rfl PassesOwn.never
      (Iv.enumM (xs := i.x.rows.dropLast) (Rx := rowT) T.f_enumerate (Ev.eq (slicel (Ev.fld (Lv.own 0 (Ev.v 0 rfl) rfl) T.cSolver T.nSolver_rows) Po.none (Po.some (Ev.neg Ev.int))) (by rw [cut_last, ← List.map_dropLast]))) (fun x => gLt rfl (gLc (gName 3 sc_bounding.nd) (gLc (gName 4 sc_bounding.nd) gL0)))
      (fun n => [some (tyP i.p), some (tyI (i.c : Int)), some (optT (boundF i.x.rows i.x.basis i.n i.c n)), none, none, none, none]) (fun _ => svW K i.p i.q i.x) (.k (.k (.k (.d (.d (.d (.d .n))))))) (Wc.refl _) (fun B' _ _ _ n z hn => ?_) ?_
    · obtain ⟨hx, rfl⟩ := zip_at hn
      obtain ⟨row, n⟩ := z
      have hn1 : n < i.x.rows.dropLast.length := (List.getElem?_eq_some_iff.mp hx).1
      have hnm : n < i.m := by rw [List.length_dropLast, hlen] at hn1; omega
      have hrow : i.x.rows.getD n [] = row := by
        have hx : i.x.rows.dropLast[n]? = some row := hx
        rw [List.getElem?_dropLast, if_pos (by omega)] at hx
        rw [List.getD_eq_getElem?_getD, hx]; rfl
      have e1 : ∀ {j : Nat}, j < i.n + 1 → (row.map tyI)[j]? = some (tyI (ent i.x.rows n j)) := fun hj => by rw [← hrow]; exact ent_at hsh (by omega) hj
      have e2 : atI (row.map tyI) (-1) = some (tyI (ent i.x.rows n i.n)) := by rw [← hrow]; exact ent_last hsh (by omega)
      have lb : ∀ {a b : Nat}, a < i.m + 1 → b < i.n + 1 → Lb 4000 (ent i.x.rows a b) := fun ha hb => hp.eb _ _ ha hb
      refine Sj.if_ (Tv.gt (ixl (Lv.core (Ev.v 4 rfl)) (Ev.v 1 rfl) (ati_nat (e1 hcn))) Ev.int) (fun h => ?_) (fun h => ?_)
      · have h : 0 < ent i.x.rows n i.c := of_decide_eq_true h.symm
        cases hb : boundF i.x.rows i.x.basis i.n i.c n with
        | none =>
          have hs : boundF i.x.rows i.x.basis i.n i.c (n + 1) = some n := by
            show (if 0 < ent i.x.rows n i.c then _ else _) = _
            rw [if_pos h, hb]
          refine Sj.if_ (Tv.isN (Ev.v 2 rfl) (bb := true) (fun v C hv => by rw [optT_non hv]; rfl)) (fun _ => ?_) (fun z => by cases z)
          refine Sj.set 2 sc_bounding.nd (Ev.v 3 rfl) (Sj.go (Sj.go (Sj.at (.k (.k (.c (fun v C hv => ?_) (.d (.d (.d (.d .n))))))) (Wc.refl _)) rfl) rfl)
          rw [hs]; exact hv
        | some b =>
          have hbn := bound_lt n b hb
          have hs : boundF i.x.rows i.x.basis i.n i.c (n + 1) = if betterF i.x.rows i.x.basis i.n i.c b n = true then some n else some b := by
            show (if 0 < ent i.x.rows n i.c then _ else _) = _
            rw [if_pos h, hb]
          have rb : (i.x.rows.map rowT)[b]? = some (rowT (i.x.rows.getD b [])) := row_at hsh (by omega)
          have bas : ∀ j, j < i.m → (natT i.x.basis)[j]? = some (tyI ((i.x.basis.getD j 0 : Nat) : Int)) := fun j hj => by
            rw [List.getElem?_map, List.getElem?_eq_getElem (by rw [hp.bl]; exact hj), List.getD_eq_getElem?_getD, List.getElem?_eq_getElem (by rw [hp.bl]; exact hj)]; rfl
          refine Sj.if_ (Tv.isN (Ev.v 2 rfl) (bb := false) (fun v C hv => by rw [optT_non hv]; rfl)) (fun z => by cases z) (fun _ => ?_)
          have vb : ∀ {B : Bs} {Γ : Gm} {W : Wl} {e : Expr} {X : Cx}, Ev X B Γ W e (optT (some b)) → Ev X B Γ W e (tyI (b : Int)) := fun h => h
          refine Sj.set 5 sc_bounding.nd (Ev.mul (ixl (Lv.core (Ev.v 4 rfl)) (Ev.neg Ev.int) e2) (ixl (Lv.core (ixl (Lv.core (Ev.fld (Lv.own 0 (Ev.v 0 rfl) rfl) T.cSolver T.nSolver_rows)) (vb (Ev.v 2 rfl)) (ati_nat rb))) (Ev.v 1 rfl) (ati_nat (ent_at hsh (by omega) hcn))) (sm_mul (lb (by omega) (by omega)) (lb (by omega) hcn))) ?_
          refine Sj.set 6 sc_bounding.nd (Ev.mul (ixl (Lv.core (ixl (Lv.core (Ev.fld (Lv.own 0 (Ev.v 0 rfl) rfl) T.cSolver T.nSolver_rows)) (vb (Ev.v 2 rfl)) (ati_nat rb))) (Ev.neg Ev.int) (ent_last hsh (by omega))) (ixl (Lv.core (Ev.v 4 rfl)) (Ev.v 1 rfl) (ati_nat (e1 hcn))) (sm_mul (lb (by omega) (by omega)) (lb (by omega) hcn))) ?_
          have hbt : betterF i.x.rows i.x.basis i.n i.c b n = (decide (ent i.x.rows n i.n * ent i.x.rows b i.c < ent i.x.rows b i.n * ent i.x.rows n i.c) || (decide (ent i.x.rows n i.n * ent i.x.rows b i.c = ent i.x.rows b i.n * ent i.x.rows n i.c) && decide (((i.x.basis.getD n 0 : Nat) : Int) < ((i.x.basis.getD b 0 : Nat) : Int)))) := by
            unfold betterF
            congr 2
            rw [decide_eq_decide]; omega
          refine Sj.if_ (Tv.w (Wv.or (Tv.lt (Ev.v 5 rfl) (Ev.v 6 rfl)) fun _ => Wv.or1 (Tv.w (Wv.and (Tv.eqI (Ev.v 5 rfl) (Ev.v 6 rfl)) fun _ => Wv.and1 (Tv.lt (ixl (Lv.own 1 (Ev.fld (Lv.own 0 (Ev.v 0 rfl) rfl) T.cSolver T.nSolver_basis) rfl) (Ev.v 3 rfl) (ati_nat (bas n hnm))) (ixl (Lv.own 1 (Ev.fld (Lv.own 0 (Ev.v 0 rfl) rfl) T.cSolver T.nSolver_basis) rfl) (vb (Ev.v 2 rfl)) (ati_nat (bas b (by omega))))))))) (fun z => ?_) (fun z => ?_)
          · have z2 : betterF i.x.rows i.x.basis i.n i.c b n = true := by
              rw [hbt]; exact z.symm
            refine Sj.set 2 sc_bounding.nd (Ev.v 3 rfl) (Sj.go (Sj.go (Sj.go (Sj.at (.k (.k (.c (fun v C hv => ?_) (.d (.d (.d (.d .n))))))) (Wc.refl _)) rfl) rfl) rfl)
            rw [hs, if_pos z2]; exact hv
          · have z2 : ¬ betterF i.x.rows i.x.basis i.n i.c b n = true := by
              rw [hbt]
              exact fun z3 => by rw [z3] at z; cases z
            refine Sj.go (Sj.go (Sj.go (Sj.at (.k (.k (.c (fun v C hv => ?_) (.d (.d (.d (.d .n))))))) (Wc.refl _)) rfl) rfl) rfl
            rw [hs, if_neg z2]; exact hv
      · have h : ¬ 0 < ent i.x.rows n i.c := of_decide_eq_false h.symm
        have hs : boundF i.x.rows i.x.basis i.n i.c (n + 1) = boundF i.x.rows i.x.basis i.n i.c n := by
          show (if 0 < ent i.x.rows n i.c then _ else _) = _
          rw [if_neg h]
        rw [hs]
        exact Sj.go (Sj.at (.k (.k (.k (.d (.d (.d (.d .n))))))) (Wc.refl _)) rfl
    · have hl : (i.x.rows.dropLast).zipIdx.length = i.m := by rw [List.length_zipIdx, List.length_dropLast, hlen]; rfl
      rw [hl]
      exact Sj.ret (Ev.v 2 rfl) fin (fun v C hv => hv) (Wc.refl _))
end
end MF
set_option maxHeartbeats 4000000
/-! defs: exchange, told, price, Solver. -/
namespace MF
open PySem PySem.Spec L2 MT MJ
open PyProof.Rows hiding St
open MK (Mat SolS Shape ent risingF boundF betterF exchF lineF)
section
variable {P : Program} {w : World} {K : PySem.W.Frag} {mg : Str → Option Value} {base : Heap}
abbrev NEx : List Str := ["self", "at", "column", "row", "pivot", "made", "other", "entries", "one", "own"]
theorem sc_exch : FnScope NEx ["self", "at", "column"] (defScope s_solver_exchange) := ⟨rfl, rfl, rfl, by decide +kernel, rfl, by decide +kernel, by decide +kernel⟩
def exS (i : SvI) : SolS := ⟨exchF i.x.rows i.x.dv i.r i.c, ent i.x.rows i.r i.c, i.x.basis.set i.r i.c⟩
abbrev sp_exch (K : PySem.W.Frag) : Sp := spQ (fun i => SvOk i ∧ i.r < i.m) (fun i => svW K i.p i.q i.x) (fun i => [tyP i.p, tyI (i.r : Int), tyI (i.c : Int)]) (fun i => svW K i.p i.q (exS i)) (fun _ => tyN)
theorem ziT_map {α β : Type} (f : α → Ty) (g : β → Ty) (xs : List α) (ys : List β) : ziT (xs.map f) (ys.map g) = (xs.zip ys).map fun q => tyTup [f q.1, g q.2] := by
  unfold ziT
  rw [List.zip_map, List.map_map]; rfl
theorem f_exch (T : Tx K mg) : C8.Met P w K mg base 1 (CSolver K) "exchange" (sp_exch K) [] :=
  mkMet T.cSolver T.mSolver_exchange T.d_solver_exchange sc_exch (fun _ _ _ _ _ _ us hl => match us, hl with | [_, _, _], _ => rfl) (lenQ fun _ => rfl) (bodyQ fun cdv A outer s H E hr i B D ⟨hp, hrm⟩ fin finN => by
    have hsh := hp.sh
    have hcn := hp.cn
    have hlen := hsh.len
    have hmb := hp.mb
    have hnb := hp.nb
    have rr : (i.x.rows.map rowT)[i.r]? = some (rowT (i.x.rows.getD i.r [])) := row_at hsh (by omega)
    have lb : ∀ {a b : Nat}, a < i.m + 1 → b < i.n + 1 → Lb 4000 (ent i.x.rows a b) := fun ha hb => hp.eb _ _ ha hb
    refine Sj.set 3 sc_exch.nd (ixl (Lv.core (Ev.fld (Lv.own 0 (Ev.v 0 rfl) rfl) T.cSolver T.nSolver_rows)) (Ev.v 1 rfl) (ati_nat rr)) ?_
    refine Sj.set 4 sc_exch.nd (ixl (Lv.core (Ev.v 3 rfl)) (Ev.v 2 rfl) (ati_nat (ent_at hsh (by omega) hcn))) ?_
    refine Sj.newL 5 sc_exch.nd fun q => ?_
    refine Sj.for_ (xs := i.x.rows.zipIdx) (Rx := fun q => tyTup [tyI ((q.2 : Nat) : Int), rowT q.1]) rfl PassesOwn.never (Iv.enumM (xs := i.x.rows) (Rx := rowT) T.f_enumerate (Ev.fld (Lv.own 0 (Ev.v 0 rfl) rfl) T.cSolver T.nSolver_rows)) (fun x => gLt rfl (gLc (gName 6 sc_exch.nd) (gLc (gName 7 sc_exch.nd) gL0)))
      (fun n => [some (tyP i.p), some (tyI (i.r : Int)), some (tyI (i.c : Int)), some (rowT (i.x.rows.getD i.r [])), some (tyI (ent i.x.rows i.r i.c)), some (tyP q), none, none, none, none]) (fun n => svW K i.p i.q i.x ++ [(q, cLst (((exchF i.x.rows i.x.dv i.r i.c).take n).map rowT))]) (.k (.k (.k (.k (.k (.k (.d (.d (.d (.d .n)))))))))) (Wc.refl _) (fun B' _ _ _ n z hn => ?_) ?_
    · obtain ⟨hx, rfl⟩ := zip_at hn
      obtain ⟨es, n⟩ := z
      have hn1 : n < i.x.rows.length := (List.getElem?_eq_some_iff.mp hx).1
      have hnm : n < i.m + 1 := by omega
      have hes : i.x.rows.getD n [] = es := by rw [List.getD_eq_getElem?_getD, hx]; rfl
      have hel : es.length = i.n + 1 := by rw [← hes]; exact hsh.row hnm
      have hrl : (i.x.rows.getD i.r []).length = i.n + 1 := hsh.row (by omega)
      have hX : (exchF i.x.rows i.x.dv i.r i.c)[n]? = some (if n = i.r then i.x.rows.getD i.r [] else lineF (i.x.rows.getD i.r []) (ent i.x.rows i.r i.c) (ent i.x.rows n i.c) i.x.dv es) := by
        unfold exchF
        rw [List.getElem?_map, List.getElem?_range hn1]
        show some (if n = i.r then _ else _) = _
        rw [hes]
      have ht : (exchF i.x.rows i.x.dv i.r i.c).take (n + 1) = (exchF i.x.rows i.x.dv i.r i.c).take n ++ [if n = i.r then i.x.rows.getD i.r [] else lineF (i.x.rows.getD i.r []) (ent i.x.rows i.r i.c) (ent i.x.rows n i.c) i.x.dv es] := by rw [List.take_succ, hX]; rfl
      have hml : (((exchF i.x.rows i.x.dv i.r i.c).take n).map rowT).length < sizeLine := by
        rw [List.length_map, List.length_take]
        exact Nat.lt_of_le_of_lt (show _ ≤ 1001 by omega) (by rw [sizeLine_eq]; decide)
      refine Sj.if_ (Tv.eqI (Ev.v 6 rfl) (Ev.v 1 rfl)) (fun h => ?_) (fun h => ?_)
      · have h : n = i.r := by have : (n : Int) = (i.r : Int) := of_decide_eq_true h.symm
                               omega
        rw [ht, if_pos h]
        refine Sj.append 2 (Ev.v 5 rfl) rfl (Ev.v 7 rfl) hml (Sj.go (Sj.at (.k (.k (.k (.k (.k (.k (.d (.d (.d (.d .n)))))))))) (.k (.k (.c (fun o C hv => ?_) .n)))) rfl)
        have e : i.x.rows.getD i.r [] = es := by rw [← h]; exact hes
        rw [List.map_append, e]; exact hv
      · have h : ¬ n = i.r := by have : ¬ (n : Int) = (i.r : Int) := of_decide_eq_false h.symm
                                 omega
        rw [ht, if_neg h]
        refine Sj.append 2 (Ev.v 5 rfl) rfl (Ev.lc (xs := es.zip (i.x.rows.getD i.r [])) (Rx := fun q => tyTup [tyI q.1, tyI q.2]) [("one", 8), ("own", 9)] rfl sc_exch.nd (by rw [← ziT_map]; exact Iv.zip T.f_zip (Ev.v 7 rfl) (Ev.v 3 rfl)) (blkOk_by (N := NEx) (sc := defScope s_solver_exchange) (by decide +kernel)) (fun x s0 H0 Cc cl fp => gLt rfl (gLc (gName 8 sc_exch.nd) (gLc (gName 9 sc_exch.nd) gL0))) (by decide) (by rw [List.length_zip, hel, hrl]; exact Nat.lt_of_le_of_lt (show _ ≤ 2001 by omega) (by rw [sizeLine_eq]; decide))
          (Ro := fun q => tyI ((q.1 * ent i.x.rows i.r i.c - ent i.x.rows n i.c * q.2) / i.x.dv)) (fun z hz s0 H0 Cc cl fp D K => ?_)) hml (Sj.go (Sj.at (.k (.k (.k (.k (.k (.k (.d (.d (.d (.d .n)))))))))) (.k (.k (.c (fun o C hv => ?_) .n)))) rfl)
        · obtain ⟨j, hj⟩ := List.getElem?_of_mem hz
          rw [List.getElem?_zip_eq_some] at hj
          have hjn : j < i.n + 1 := by have := (List.getElem?_eq_some_iff.mp hj.1).1; omega
          have b1 : Lb 4000 z.1 := by
            have := lb hnm hjn
            rwa [MK.ent_eq (by rw [hes]; exact hj.1)] at this
          have b2 : Lb 4000 z.2 := by
            have := lb (a := i.r) (by omega) hjn
            rwa [MK.ent_eq hj.2] at this
          exact Ev.div (Ev.sub (Ev.mul (Ev.v 8 rfl) (Ev.v 4 rfl) (sm_mul b1 (lb (by omega) hcn))) (Ev.mul (ixl (Lv.core (Ev.v 7 rfl)) (Ev.v 2 rfl) (ati_nat (by rw [← hes]; exact ent_at hsh hnm hcn))) (Ev.v 9 rfl) (sm_mul (lb hnm hcn) b2))) (Ev.fld (Lv.own 0 (Ev.v 0 rfl) rfl) T.cSolver T.nSolver_divisor) (wide_div hp.dp hp.db (by decide) (by decide))
        · have e : rowT (lineF (i.x.rows.getD i.r []) (ent i.x.rows i.r i.c) (ent i.x.rows n i.c) i.x.dv es) = tyLst ((es.zip (i.x.rows.getD i.r [])).map fun q => tyI ((q.1 * ent i.x.rows i.r i.c - ent i.x.rows n i.c * q.2) / i.x.dv)) := by
            show tyLst _ = tyLst _
            unfold lineF
            rw [← List.map_uncurry_zip_eq_zipWith, List.map_map]
            congr 1
            refine List.map_congr_left fun q _ => ?_
            show tyI (Int.fdiv _ _) = tyI _
            rw [Int.fdiv_eq_ediv_of_nonneg _ (Int.le_of_lt hp.dp)]
          rw [List.map_append]
          show (cLst (_ ++ [rowT _])).r o C
          rw [e]; exact hv
    have hzl : i.x.rows.zipIdx.length = i.x.rows.length := List.length_zipIdx
    have hel : (exchF i.x.rows i.x.dv i.r i.c).length = i.x.rows.length := by unfold exchF; rw [List.length_map, List.length_range]
    rw [hzl, ← hel, List.take_length]
    refine Sj.freeze 2 5 rfl rfl ?_
    refine Sj.fldR 0 (Ev.v 5 rfl) (Ev.v 0 rfl) [] [("divisor", tyI i.x.dv), ("basis", tyP i.q)] rfl T.cSolver T.nSolver_rows [] ?_ (hl := show 3 < 1000 by decide)
    refine Sj.fldR 0 (Ev.v 4 rfl) (Ev.v 0 rfl) [("rows", matT (exchF i.x.rows i.x.dv i.r i.c))] [("basis", tyP i.q)] rfl T.cSolver T.nSolver_divisor ["rows"] ?_ (hl := show 3 < 1000 by decide)
    refine Sj.setItem (z := i.r) 1 (Ev.v 2 rfl) (Ev.fld (Lv.own 0 (Ev.v 0 rfl) rfl) T.cSolver T.nSolver_basis) rfl (Ev.v 1 rfl) (by rw [List.length_map, hp.bl]; exact hrm) ?_
    refine Sj.nil fun σ C H S => finN σ C H (S.en.wc (.k (.c (fun o C h => ?_) .n))) rfl
    show (cLst ((i.x.basis.set i.r i.c).map fun k : Nat => tyI (k : Int))).r o C
    rw [List.map_set]; exact h)
/-! told, price -/
abbrev svT (K : PySem.W.Frag) (x : SolS) : Ty := tyO (CSolver K) (svF x (tyLst (natT x.basis)))
theorem indexE {X : Cx} {B : Bs} {Γ : Gm} {W : Wl} {o e : Expr} {apos cpos : Pos} {l : List Nat} {c j : Nat} (ho : Ev X B Γ W o (tyLst (natT l))) (he : Ev X B Γ W e (tyI (c : Int))) (hj : l.findIdx? (fun b => b == c) = some j) (hbase : attributeBase o "index" X.env (eval o X.env) = eval o X.env := by rfl)
    (hfew : ((backTo cpos (starEach [e] X.env)).all (fun x => !x.1) && (backToKw cpos (keywordEach [] X.env)).all (fun x => x.1.isSome)
      && decide ([e].length + ([] : List Keyword).length + (if ([] : List Keyword).isEmpty then 0 else 1) < 30)) = true := by rfl)
    (hline : (apos.endLine == cpos.line) = true := by rfl) (hst : starEach [e] X.env = (false, eval e X.env) :: starEach [] X.env := by rfl) (hplain : (backTo cpos (starEach [] X.env)).any (·.1) = false := by rfl) :
    Ev X B Γ W (.Call (.Attribute o "index" apos) [e] [] cpos) (tyI (j : Int)) := fun σ C H S Q k =>
  toE (pe_bm PySem.F.plainAttrs_list PySem.F.slot_list_index PySem.F.type_list_index mt_index pe_s (pa_cons pe_s pa_nil hst) hbase hfew hline hst hplain) (ho σ C H S _ fun v C1 H1 s1 E1 r1 => by
    obtain ⟨p, vs, rfl, hc, hp, al⟩ := getL E1 r1
    have ev : vs = l.map fun k : Nat => V.int (k : Int) := als_V (fun k : Nat => V.int (k : Int)) al
    subst ev
    refine ⟨.inl ⟨rfl, _, SqL.of hp⟩, he σ C1 H1 (S.go s1 E1) _ fun y C2 H2 s2 E2 r2 => ?_⟩
    cases r2
    obtain ⟨h1, h2, h3⟩ := List.findIdx?_eq_some_iff_getElem.mp hj
    have e0 : l[j] = c := by simpa using h2
    refine ⟨p, _, _, j, .int (c : Int), rfl, rfl, SqL.of (at_lst (E2.ch p _ (s2 p _ hc))), rfl, flatsI, by rw [List.getElem?_map, List.getElem?_eq_getElem h1, e0]; rfl, by show ((c : Int) == (c : Int)) = true; simp, fun m z hm hz => ?_, k _ C2 H2 (s1.trans s2) E2 rfl⟩
    rw [List.getElem?_map, List.getElem?_eq_getElem (by omega)] at hz
    cases hz
    have := h3 m hm
    show ((l[m] : Int) == (c : Int)) = false
    have h4 : ¬ l[m] = c := by simpa using this
    simp; omega)
theorem sc_told : FnScope ["self", "column"] ["self", "column"] (defScope s_solver_told) := ⟨rfl, rfl, rfl, by decide +kernel, rfl, by decide +kernel, by decide +kernel⟩
structure TdOk (i : SolS × Nat × Nat × Nat) : Prop where
  sh : Shape i.1.rows i.2.1 i.2.2.1
  bl : i.1.basis.length = i.2.1
  cn : i.2.2.2 < i.2.2.1 + 1
abbrev sp_told (K : PySem.W.Frag) : Sp := spP TdOk (fun i => [svT K i.1, tyI (i.2.2.2 : Int)]) (fun i => tyI (MK.toldF i.1 i.2.2.1 i.2.2.2))
theorem f_told (T : Tx K mg) : C8.Met P w K mg base 1 (CSolver K) "told" (sp_told K) [] :=
  mkMet T.cSolver T.mSolver_told T.d_solver_told sc_told (fun _ _ _ _ _ _ us hl => match us, hl with | [_, _], _ => rfl) (lenP fun _ => rfl) (bodyP fun cdv A outer s H E hr i B D hp fin _ => by
    obtain ⟨x, m, n, c⟩ := i
    have hsh : Shape x.rows m n := hp.sh
    have hbl : x.basis.length = m := hp.bl
    refine Sj.if_ (TinI (g := fun k : Nat => (k : Int)) (Ev.v 1 rfl) (Lv.core (Ev.fld (Lv.core (Ev.v 0 rfl)) T.cSolver T.nSolver_basis)) (scalL fun k : Nat => V.int (k : Int))) (fun h => ?_) (fun h => ?_)
    · obtain ⟨k, hk, e⟩ := List.mem_map.mp (of_decide_eq_true h.symm)
      have e : k = c := by have : (k : Int) = (c : Int) := e
                           omega
      cases hj : x.basis.findIdx? (fun b => b == c) with
      | none => exact absurd (List.findIdx?_eq_none_iff.mp hj k hk) (by simp [e])
      | some j =>
        have hjm : j < m := by rw [← hbl]; exact (List.findIdx?_eq_some_iff_getElem.mp hj).1
        refine Sj.ret (ixl (Lv.core (ixl (Lv.core (Ev.fld (Lv.core (Ev.v 0 rfl)) T.cSolver T.nSolver_rows)) (indexE (Ev.fld (Lv.core (Ev.v 0 rfl)) T.cSolver T.nSolver_basis) (Ev.v 1 rfl) hj) (ati_nat (row_at hsh (by omega))))) (Ev.neg Ev.int) (ent_last hsh (by omega))) fin (fun v C hv => ?_) .n
        show v = V.int (MK.toldF x n c)
        unfold MK.toldF
        rw [hj]; exact hv
    · refine Sj.go ?_ rfl
      refine Sj.ret Ev.int fin (fun v C hv => ?_) .n
      have hj : x.basis.findIdx? (fun b => b == c) = none := by
        rw [List.findIdx?_eq_none_iff]
        intro k hk
        have : ¬ k = c := fun e => (of_decide_eq_false h.symm) (List.mem_map.mpr ⟨k, hk, by rw [e]⟩)
        simp [this]
      show v = V.int (MK.toldF x n c)
      unfold MK.toldF
      rw [hj]; exact hv)
theorem sc_price : FnScope ["self", "column"] ["self", "column"] (defScope s_solver_price) := ⟨rfl, rfl, rfl, by decide +kernel, rfl, by decide +kernel, by decide +kernel⟩
abbrev sp_price (K : PySem.W.Frag) : Sp := spP TdOk (fun i => [svT K i.1, tyI (i.2.2.2 : Int)]) (fun i => tyI (ent i.1.rows i.2.1 i.2.2.2))
theorem f_price (T : Tx K mg) : C8.Met P w K mg base 1 (CSolver K) "price" (sp_price K) [] :=
  mkMet T.cSolver T.mSolver_price T.d_solver_price sc_price (fun _ _ _ _ _ _ us hl => match us, hl with | [_, _], _ => rfl) (lenP fun _ => rfl) (bodyP fun cdv A outer s H E hr i B D hp fin _ => by
    exact Sj.ret (ixl (Lv.core (ixl (Lv.core (Ev.fld (Lv.core (Ev.v 0 rfl)) T.cSolver T.nSolver_rows)) (Ev.neg Ev.int) (row_last hp.sh))) (Ev.v 1 rfl) (ati_nat (ent_at hp.sh (Nat.lt_succ_self _) hp.cn))) fin (fun v C hv => hv) .n)
end
end MF
set_option maxHeartbeats 4000000
/-! def: Solver. -/
namespace MF
open PySem PySem.Spec L2 MT MJ
open PyProof.Rows hiding St
open MK (Mat SolS Shape ent risingF boundF betterF exchF lineF runS firstS stepS lastS lastK)
structure SlI where
  rows : Mat
  many : Nat
  m : Nat
  n : Nat
structure SlOk (i : SlI) : Prop where
  sh : Shape i.rows i.m i.n
  ini : MK.Init (ent i.rows) i.m i.n i.many
  mb : i.m ≤ 1000
  nb : i.n ≤ 2000
  yb : i.many ≤ 1000
  eb : ∀ k a b, a < i.m + 1 → b < i.n + 1 → Lb 4000 (ent (runS i.m i.n (firstS i.rows i.m i.many) k).rows a b)
  db : ∀ k, Lb 4000 (runS i.m i.n (firstS i.rows i.m i.many) k).dv
noncomputable def slS (i : SlI) : SolS := lastS i.m i.n (firstS i.rows i.m i.many)
theorem sl_ok {i : SlI} (h : SlOk i) (p q : Addr) (k c r : Nat) (hc : c < i.n + 1) (hr : i.m = 0 ∨ r < i.m) : SvOk ⟨p, q, runS i.m i.n (firstS i.rows i.m i.many) k, i.m, i.n, c, r⟩ := by
  obtain ⟨s, t⟩ := MK.Turn.first h.ini h.sh
  have t := t.run h.ini k
  exact ⟨t.shape, t.blen, hc, hr, h.mb, h.nb, t.good.dpos, h.db k, fun a b ha hb => h.eb k a b ha hb⟩
section
variable {P : Program} {w : World} {K : PySem.W.Frag} {mg : Str → Option Value} {base : Heap}
abbrev NSl : List Str := ["self", "rows", "many", "column", "at"]
theorem sc_solver : FnScope NSl ["self", "rows", "many"] (defScope s_solver_init) := ⟨rfl, rfl, rfl, by decide +kernel, rfl, by decide +kernel, by decide +kernel⟩
abbrev sp_solver (K : PySem.W.Frag) : Sp := spI (CSolver K) SlOk (fun i => [matT i.rows, tyI (i.many : Int)]) (fun i => svF (slS i) (tyLst (natT (slS i).basis)))
theorem f_solver (T : Tx K mg) : C8.Mak P w K mg base 2 "Solver" (CSolver K) (sp_solver K) [] :=
  mkMak T.kSolver T.gSolver T.d_solver_init sc_solver (fun _ _ _ _ _ _ us hl => match us, hl with | [_, _, _], _ => rfl) (lenW fun _ => rfl) (bodyW fun cdv A outer s H E hr i B D p hp fin finN => by
    have hlen := hp.sh.len
    have hmb := hp.mb
    obtain ⟨sg, t0⟩ := MK.Turn.first hp.ini hp.sh
    obtain ⟨hN, hlt⟩ := t0.lastK_spec hp.ini
    generalize hs0 : firstS i.rows i.m i.many = s0 at t0 hN hlt
    have e0 : (((i.rows.map rowT).length : Int) - 1).toNat = i.m := by rw [List.length_map, hlen]; omega
    refine Sj.fld 0 (Ev.v 1 rfl) (Ev.v 0 rfl) rfl T.cSolver T.nSolver_rows [] ?_
    refine Sj.fld 0 Ev.int (Ev.v 0 rfl) rfl T.cSolver T.nSolver_divisor ["rows"] ?_
    refine Sj.fldLc 0 [("at", 4)] rfl sc_solver.nd (Iv.range T.f_range (Ev.sub (lenL T.f_len (Lv.core (Ev.v 1 rfl))) Ev.int) (by rw [List.length_map, hlen]; omega) (by rw [List.length_map, hlen]; omega)) (blkOk_by (N := NSl) (sc := defScope s_solver_init) (by decide +kernel)) (fun x s0 H0 Cc cl fp => gName 4 sc_solver.nd) (by decide) (by rw [List.length_range, e0]; exact small1000 hmb)
      (Ro := fun k => tyI ((i.many : Int) + ((k : Nat) : Int))) (fun k hk s0 H0 Cc cl fp D K => Ev.add (Ev.v 2 rfl) (Ev.v 4 rfl)) (fun W' => Ev.v 0 rfl) rfl T.cSolver T.nSolver_basis ["rows", "divisor"] fun q => ?_
    refine Sj.ws (Γ' := [some (tyP p), none, none, none, none]) (W' := svW K p q s0) (.k (.d (.d (.d (.d .n))))) (.c (fun o C h => by rw [← hs0]; exact h) (.c (fun o C h => ?_) .n)) ?_
    · rw [← hs0]
      have e : natT (firstS i.rows i.m i.many).basis = (List.range (((i.rows.map rowT).length : Int) - 1).toNat).map fun k => tyI ((i.many : Int) + ((k : Nat) : Int)) := by
        rw [e0]
        show natT ((List.range i.m).map fun j => i.many + j) = _
        show ((List.range i.m).map fun j => i.many + j).map (fun k : Nat => tyI (k : Int)) = _
        rw [List.map_map]
        refine List.map_congr_left fun k _ => ?_
        show tyI ((i.many + k : Nat) : Int) = _
        rw [Int.natCast_add]
      rw [e]; exact h
    have ok : ∀ k c r, c < i.n + 1 → (i.m = 0 ∨ r < i.m) → SvOk ⟨p, q, runS i.m i.n s0 k, i.m, i.n, c, r⟩ := fun k c r hc hr => by rw [← hs0]; exact sl_ok hp p q k c r hc hr
    have ok0 : SvOk ⟨p, q, s0, i.m, i.n, 0, 0⟩ := ok 0 0 0 (by omega) (by omega)
    refine Sj.set 3 sc_solver.nd (Ev.methQ0 (pl := _) (f_rising T) hr (by decide) ⟨p, q, s0, i.m, i.n, 0, 0⟩ ok0 rfl 0 (Ev.v 0 rfl) rfl) ?_
    refine Sj.while_ PassesOwn.never (fun k : Nat => k ≤ lastK i.m i.n s0) (fun k => lastK i.m i.n s0 - k) (fun k => [some (tyP p), none, none, some (optT (risingF (runS i.m i.n s0 k).rows)), none]) (fun k => svW K p q (runS i.m i.n s0 k)) (fun k => !(risingF (runS i.m i.n s0 k).rows).isNone) 0 (Nat.zero_le _) (Ws.refl _) (Wc.refl _)
      (fun k hk => Tv.notN (Ev.v 3 rfl) (fun v C hv => optT_non hv)) (fun k hk ht => ?_) (fun k hk ht => ?_)
    · cases hc : risingF (runS i.m i.n s0 k).rows with
      | none => rw [hc] at ht; cases ht
      | some c =>
        have hkN : k < lastK i.m i.n s0 := by
          rcases Nat.lt_or_ge k (lastK i.m i.n s0) with h | h
          · exact h
          · have e : k = lastK i.m i.n s0 := by have : k ≤ lastK i.m i.n s0 := hk
                                                omega
            rw [e, hN] at hc; cases hc
        obtain ⟨hcn, r, hb, hrm, _, _⟩ := (t0.run hp.ini k).pick hp.ini hc
        have hst : runS i.m i.n s0 (k + 1) = exS ⟨p, q, runS i.m i.n s0 k, i.m, i.n, c, r⟩ := by
          show stepS i.m i.n (runS i.m i.n s0 k) = _
          unfold stepS
          rw [hc]
          simp only [hb]
          rfl
        have okr := ok k c r (by omega) (.inr hrm)
        refine ⟨k + 1, hkN, by omega, ?_⟩
        refine Sj.methQ (pl := _) (f_exch T) hr (by decide) ⟨p, q, runS i.m i.n s0 k, i.m, i.n, c, r⟩ ⟨okr, hrm⟩ rfl 0 (Ev.v 0 rfl) rfl (As.cons (Ev.conv (Ev.methQ (pl := _) (f_bounding T) hr (by decide) ⟨p, q, runS i.m i.n s0 k, i.m, i.n, c, r⟩ okr rfl 0 (Ev.v 0 rfl) rfl (As.cons (Ev.v 3 rfl) As.nil)) (fun v C hv => by
          have hv : (optT (boundF (runS i.m i.n s0 k).rows (runS i.m i.n s0 k).basis i.n c i.m)).r v C := hv
          rw [hb] at hv; exact hv)) (As.cons (Ev.v 3 rfl) As.nil)) ?_
        rw [← hst]
        have ok1 := ok (k + 1) 0 0 (by omega) (by omega)
        exact Sj.set 3 sc_solver.nd (Ev.methQ0 (pl := _) (f_rising T) hr (by decide) ⟨p, q, runS i.m i.n s0 (k + 1), i.m, i.n, 0, 0⟩ ok1 rfl 0 (Ev.v 0 rfl) rfl) (Sj.at (Ws.refl _) (Wc.refl _))
    · have hkN : k = lastK i.m i.n s0 := by
        rcases Nat.lt_or_ge k (lastK i.m i.n s0) with h | h
        · obtain ⟨c, hc⟩ := hlt k h
          rw [hc] at ht; cases ht
        · have : k ≤ lastK i.m i.n s0 := hk
          omega
      have hx : runS i.m i.n s0 k = slS i := by unfold slS lastS; rw [hs0, hkN]
      rw [hx]
      refine Sj.freezeF (f := "basis") (fs1 := [("rows", matT (slS i).rows), ("divisor", tyI (slS i).dv)]) (fs2 := []) 1 0 rfl (by decide) rfl ?_
      exact Sj.nil fun σ C H S => finN σ C H S.en rfl)
end
end MF
set_option maxHeartbeats 4000000
/-! defs: _solved, worth, best_row, prices. -/
namespace MF
open PySem PySem.Spec L2 MT MJ
open PyProof.Rows hiding St
open MK (Mat SolS Shape ent risingF boundF betterF exchF lineF runS firstS stepS lastS lastK fact)
theorem lb0 {n : Nat} : Lb n 0 := by show (0 : Int).natAbs < 2 ^ n; exact Nat.two_pow_pos n
theorem rq_sm {a b : Int} (hb : 0 < b) (h1 : Lb 4000 a) (h2 : Lb 4000 b) : Sm (rq a b) := by
  refine ⟨?_, ?_⟩
  · rw [rq_num hb]; exact lb_div h1
  · rw [rq_den hb]; exact lb_div h2
structure WsPre (i : Tbl × Chs × Rat) : Prop where
  pk : PkPre i
  l0 : 0 ≤ i.2.2
  ld : Lb 600 i.2.2.den
  sb : Lb 600 (tbS i.1)
  wb : ∀ t, Lb 600 (tbW i.1 t)
  wn : ∀ t, 0 ≤ tbW i.1 t
theorem fact_lt : ∀ n : Nat, n ≤ 100 → fact n ≤ 2 ^ (7 * n)
  | 0, _ => by decide
  | n + 1, h => by
    have ih := fact_lt n (by omega)
    show (n + 1) * fact n ≤ _
    have e : 2 ^ (7 * (n + 1)) = 2 ^ 7 * 2 ^ (7 * n) := by rw [← Nat.pow_add]; congr 1; omega
    rw [e]
    exact Nat.mul_le_mul (by omega) ih
def slIn (d : PkD) : SlI := ⟨MK.tabF d.texts.length (pkS d) (pkE d), d.texts.length, (pkS d).length, d.texts.length + (pkS d).length⟩
theorem min_num {q : Rat} (h0 : 0 ≤ q) {n : Nat} (h : Lb n q.den) : Lb n (min q 1).num ∧ Lb n (min q 1).den ∧ 0 ≤ (min q 1).num ∧ (min q 1).num ≤ (min q 1).den := by
  by_cases z : q ≤ 1
  · rw [show min q 1 = q by grind]
    have h1 : 0 ≤ q.num := Rat.num_nonneg.mpr h0
    have h2 : q.num ≤ q.den := by
      have := (Rat.le_iff q 1).mp z
      simpa using this
    exact ⟨lb_le h (by omega), h, h1, h2⟩
  · rw [show min q 1 = 1 by grind]
    have hd := q.den_pos
    exact ⟨lb_le h (by show (1 : Int).natAbs ≤ _; omega), lb_le h (by show (1 : Int).natAbs ≤ _; omega), by decide, by decide⟩
theorem ws_unit {i : Tbl × Chs × Rat} (h : WsPre i) : Lb 1200 (MK.unitI (tbS i.1) (min i.2.2 1)) := by
  have e : Lb (600 + 600) (tbS i.1 * (min i.2.2 1).den) := lb_mul h.sb (min_num h.l0 h.ld).2.1
  refine lb_le e ?_
  unfold MK.unitI
  have := h.pk.s0
  rw [Int.natAbs_natCast, Int.natAbs_mul, Int.natAbs_natCast]
  exact Nat.le_of_dvd (Nat.mul_pos (by omega) (min i.2.2 1).den_pos) (Nat.lcm_dvd_mul _ _)
structure WsD (d : PkD) : Prop where
  tl : d.texts.length ≤ 12
  gl : d.groups.length ≤ 64
  bl : d.bounds.length = d.texts.length
  b0 : ∀ b ∈ d.bounds, 0 ≤ b ∧ Lb 1800 b
  v0 : 0 ≤ d.level ∧ Lb 1800 d.level
theorem ws_d {i : Tbl × Chs × Rat} (h : WsPre i) : WsD (pkF i.1 i.2.1 i.2.2) := by
  obtain ⟨m1, m2, m3, m4⟩ := min_num h.l0 h.ld
  have hU := ws_unit h
  have hU0 : 0 < MK.unitI (tbS i.1) (min i.2.2 1) := MK.unit_pos h.pk.s0
  have hs := h.pk.s0
  refine ⟨?_, ?_, ?_, fun b hb => ?_, ?_, ?_⟩
  · show (tbK i.1).length ≤ 12
    unfold tbK
    rw [srt_length, List.length_map]; exact h.pk.tl
  · show ((pkR i.1 i.2.1).map _).length ≤ 64
    rw [List.length_map]
    have h1 : ∀ (l rs : List Str), (MK.pickF (MK.grpF (chG i.2.1) (tbK i.1)) rs l).length ≤ rs.length + l.length := by
      intro l
      induction l with
      | nil => intro rs; exact Nat.le_refl _
      | cons a l ih =>
        intro rs
        unfold MK.pickF
        split
        · exact Nat.le_trans (ih rs) (by simp)
        · exact Nat.le_trans (ih _) (by simp; omega)
    have h2 := h1 (srt ((rowsF (chG i.2.1) (tbK i.1)).map (·.1))) []
    have ro := rows_ok (of := chG i.2.1) (texts := tbK i.1) (fun t _ => h.pk.each t) (tbK i.1).length (Nat.le_refl _)
    rw [show (tbK i.1).zipIdx.take (tbK i.1).length = (tbK i.1).zipIdx by rw [List.take_of_length_le (by rw [List.length_zipIdx]; exact Nat.le_refl _)]] at ro
    have ro : RowOk (chG i.2.1) (tbK i.1) (tbK i.1).length (rowsF (chG i.2.1) (tbK i.1)) := ro
    have hk : ∀ x, x ∈ (rowsF (chG i.2.1) (tbK i.1)).map (·.1) → x ∈ dst (flT i.2.1) := fun x hx => by
      obtain ⟨j, hj, t, ht, hm⟩ := (ro.ok.mem x).mp hx
      exact dst_mem.mpr (List.mem_flatMap.mpr ⟨_, dget_some_mem (chG_of (h.pk.sub t (srt_mem.mp (List.mem_of_getElem? ht)))), hm⟩)
    have h3 := MR.len_sub ro.ok.nd hk
    rw [srt_length] at h2
    have h4 := h.pk.f2
    unfold pkR
    simp only [List.length_nil] at h2
    omega
  · show (MK.boundsF _ _ _ _).length = (tbK i.1).length
    unfold MK.boundsF
    rw [List.length_map]
  · obtain ⟨t, _, rfl⟩ := List.mem_map.mp hb
    exact ⟨Int.mul_nonneg (h.wn t) (Int.ediv_nonneg (Int.le_of_lt hU0) (Int.le_of_lt hs)), lb_mul (a := 600) (b := 1200) (h.wb t) (lb_div hU)⟩
  · exact Int.mul_nonneg m3 (Int.ediv_nonneg (Int.le_of_lt hU0) (Int.le_of_lt (den_pos _)))
  · exact lb_mul (a := 600) (b := 1200) m1 (lb_div hU)
theorem sl_of {d : PkD} (h : WsD d) : SlOk (slIn d) := by
  have htl := h.tl
  have hgl := h.gl
  have hsl : (pkS d).length = d.texts.length + d.groups.length := MK.sides_len
  have hE : ∀ k, 0 ≤ (pkE d).getD k 0 ∧ Lb 1800 ((pkE d).getD k 0) := fun k => by
    rw [List.getD_eq_getElem?_getD]
    cases z : (pkE d)[k]? with
    | none => exact ⟨Int.le_refl _, lb0⟩
    | some e =>
      have hm := List.mem_of_getElem? z
      unfold pkE MK.endsF at hm
      rcases List.mem_append.mp hm with hm | hm
      · exact h.b0 e hm
      · obtain ⟨_, _, rfl⟩ := List.mem_map.mp hm
        exact h.v0
  have hS : ∀ j, j < d.texts.length → ∃ k, k < (pkS d).length ∧ j ∈ (pkS d).getD k [] := fun j hj => ⟨j, by omega, by rw [MK.sides_own hj]; simp⟩
  have hini := MK.tab_init (many := d.texts.length) (sides := pkS d) (ends := pkE d) (fun k _ => (hE k).1) hS
  obtain ⟨s, t0⟩ := MK.Turn.first hini MK.tab_shape
  have hf : fact ((pkS d).length + 1) ≤ 2 ^ 539 := Nat.le_trans (fact_lt _ (by omega)) (Nat.pow_le_pow_right (by decide) (by omega))
  have small1 : ∀ k a b, a < (pkS d).length + 1 → b < d.texts.length + (pkS d).length → (ent (runS (pkS d).length (d.texts.length + (pkS d).length) (firstS (MK.tabF d.texts.length (pkS d) (pkE d)) (pkS d).length d.texts.length) k).rows a b).natAbs ≤ 2 ^ 539 := fun k a b ha hb => by
    have t := t0.run hini k
    have := t.good.small (R := 1) (fun k hk j hj => MK.tab_one hk hj) ha (Nat.le_of_lt hb) (fun k hk => MK.tab_one hk hb)
    omega
  refine ⟨MK.tab_shape, hini, by show (pkS d).length ≤ 1000; omega, by show d.texts.length + (pkS d).length ≤ 2000; omega, by show d.texts.length ≤ 1000; omega, fun k a b ha hb => ?_, fun k => ?_⟩
  · have ha : a < (pkS d).length + 1 := ha
    have hb : b < d.texts.length + (pkS d).length + 1 := hb
    by_cases hbn : b < d.texts.length + (pkS d).length
    · exact Nat.lt_of_le_of_lt (small1 k a b ha hbn) (Nat.pow_lt_pow_right (by decide) (by decide))
    · have e : b = d.texts.length + (pkS d).length := by omega
      subst e
      have t := t0.run hini k
      have := t.good.small (R := 2 ^ 1800) (fun k hk j hj => MK.tab_one hk hj) ha (Nat.le_refl _) (fun k hk => MK.tab_end_le (fun k _ => Nat.le_of_lt (hE k).2) hk)
      refine Nat.lt_of_le_of_lt (Nat.le_trans this (Nat.mul_le_mul_right _ hf)) ?_
      rw [← Nat.pow_add]
      exact Nat.pow_lt_pow_right (by decide) (by decide)
  · cases k with
    | zero => show (1 : Int).natAbs < 2 ^ 4000; exact Nat.lt_of_lt_of_le (by decide : 1 < 2 ^ 1) (Nat.pow_le_pow_right (by decide) (by decide))
    | succ k =>
      have key : ∀ x : SolS, MK.Turn (ent (MK.tabF d.texts.length (pkS d) (pkE d))) (pkS d).length (d.texts.length + (pkS d).length) s x → Lb 4000 x.dv → (∀ a b, a < (pkS d).length + 1 → b < d.texts.length + (pkS d).length → (ent x.rows a b).natAbs ≤ 2 ^ 539) → Lb 4000 (stepS (pkS d).length (d.texts.length + (pkS d).length) x).dv := fun x t hd hs => by
        unfold stepS
        cases e : risingF x.rows with
        | none => exact hd
        | some c =>
          obtain ⟨hc, r, h1, h2, h3, h4⟩ := t.pick hini e
          simp only [h1]
          exact Nat.lt_of_le_of_lt (hs r c (by omega) hc) (Nat.pow_lt_pow_right (by decide) (by decide))
      have all : ∀ k, Lb 4000 (runS (pkS d).length (d.texts.length + (pkS d).length) (firstS (MK.tabF d.texts.length (pkS d) (pkE d)) (pkS d).length d.texts.length) k).dv := by
        intro k
        induction k with
        | zero => show (1 : Int).natAbs < 2 ^ 4000; exact Nat.lt_of_lt_of_le (by decide : 1 < 2 ^ 1) (Nat.pow_le_pow_right (by decide) (by decide))
        | succ k ih => exact key _ (t0.run hini k) ih (small1 k)
      exact all (k + 1)
/-! ### _solved -/
abbrev wsD (i : Tbl × Chs × Rat) : PkD := pkF i.1 i.2.1 i.2.2
noncomputable def wsX (i : Tbl × Chs × Rat) : SolS := slS (slIn (wsD i))
abbrev wsM (i : Tbl × Chs × Rat) : Nat := (pkS (wsD i)).length
abbrev wsN (i : Tbl × Chs × Rat) : Nat := (wsD i).texts.length + (pkS (wsD i)).length
theorem ws_x {i : Tbl × Chs × Rat} (h : WsPre i) : Shape (wsX i).rows (wsM i) (wsN i) ∧ (wsX i).basis.length = wsM i ∧ 0 < (wsX i).dv ∧ Lb 4000 (wsX i).dv ∧ (∀ a b, a < wsM i + 1 → b < wsN i + 1 → Lb 4000 (ent (wsX i).rows a b)) ∧
    MK.LpEnd (wsD i).texts.length (pkS (wsD i)) (pkE (wsD i)) (wsX i).dv (ent (wsX i).rows (wsM i) (wsN i)) (fun k => ent (wsX i).rows (wsM i) ((wsD i).texts.length + k)) (MK.toldF (wsX i) (wsN i)) := by
  have hd := ws_d h
  have ok := sl_of hd
  obtain ⟨s, t0⟩ := MK.Turn.first ok.ini ok.sh
  have t := t0.run ok.ini (lastK (slIn (wsD i)).m (slIn (wsD i)).n (firstS (slIn (wsD i)).rows (slIn (wsD i)).m (slIn (wsD i)).many))
  have hE : ∀ k, 0 ≤ (pkE (wsD i)).getD k 0 := fun k => by
    rw [List.getD_eq_getElem?_getD]
    cases z : (pkE (wsD i))[k]? with
    | none => exact Int.le_refl _
    | some e =>
      have hm := List.mem_of_getElem? z
      unfold pkE MK.endsF at hm
      rcases List.mem_append.mp hm with hm | hm
      · exact (hd.b0 e hm).1
      · obtain ⟨_, _, rfl⟩ := List.mem_map.mp hm
        exact hd.v0.1
  exact ⟨t.shape, t.blen, t.good.dpos, ok.db _, fun a b ha hb => ok.eb _ a b ha hb, MK.lp_end (fun k _ => hE k) (fun j hj => ⟨j, by have := MK.sides_len (many := (wsD i).texts.length) (gs := (wsD i).groups); show j < (MK.sidesF _ _).length; omega, by rw [MK.sides_own hj]; simp⟩) t (t0.lastK_spec ok.ini).1⟩
section
variable {P : Program} {w : World} {K : PySem.W.Frag} {mg : Str → Option Value} {base : Heap}
abbrev wsA (K : PySem.W.Frag) (i : Tbl × Chs × Rat) : List Ty := [tyTb K i.1, tyCh K i.2.1, tySh (CShare K) i.2.2]
theorem sc_solved : FnScope ["source", "changes", "level", "packing"] ["source", "changes", "level"] (defScope s_solved) := ⟨rfl, rfl, rfl, by decide +kernel, rfl, by decide +kernel, by decide +kernel⟩
abbrev sp_solved (K : PySem.W.Frag) : Sp := spP WsPre (wsA K) (fun i => tyTup [tyO (CPacking K) (pkFs (wsD i)), svT K (wsX i)])
theorem f_solved (T : Tx K mg) : C8.Cal P w K mg base 7 "_solved" (sp_solved K) [] :=
  mkCal T.g_solved T.d_solved sc_solved (fun _ _ _ _ _ _ us hl => match us, hl with | [_, _, _], _ => rfl) (lenP fun _ => rfl) (bodyP fun cdv A outer s H E hr i B D hp fin _ => by
    have hd := ws_d hp
    have ok := sl_of hd
    have tab : TabOk (wsD i) := ⟨Nat.le_trans hd.tl (by decide), Nat.le_trans hd.gl (by decide), hd.bl⟩
    refine Sj.set 3 sc_solved.nd (Ev.mk (f_packing T) hr (by decide) i hp.pk (As.cons (Ev.v 0 rfl) (As.cons (Ev.v 1 rfl) (As.cons (Ev.v 2 rfl) As.nil)))) ?_
    refine Sj.ret (Ev.tup (As.cons (Ev.v 3 rfl) (As.cons (Ev.mk (f_solver T) hr (by decide) (slIn (wsD i)) ok (As.cons (Ev.meth0 (pl := _) (f_tab T) hr (by decide) (wsD i) tab (Ev.v 3 rfl)) (As.cons (Ev.eq (lenT T.f_len (Lv.core (Ev.fld (Lv.core (Ev.v 3 rfl)) T.cPacking T.nPacking_texts))) (by rw [List.length_map]; rfl)) As.nil))) As.nil))) fin (fun v C h => h) .n)
theorem sc_worth : FnScope ["source", "changes", "level", "packing", "solver"] ["source", "changes", "level"] (defScope s_worth) := ⟨rfl, rfl, rfl, by decide +kernel, rfl, by decide +kernel, by decide +kernel⟩
noncomputable abbrev wsW (i : Tbl × Chs × Rat) : Rat := rq (ent (wsX i).rows (wsM i) (wsN i)) ((wsX i).dv * (wsD i).unit)
abbrev sp_worth (K : PySem.W.Frag) : Sp := spP WsPre (wsA K) (fun i => tySh (CShare K) (wsW i))
theorem ws_under {i : Tbl × Chs × Rat} (hp : WsPre i) : 0 < (wsX i).dv * (wsD i).unit ∧ Lb 8000 ((wsX i).dv * (wsD i).unit) := by
  obtain ⟨_, _, d0, db, _⟩ := ws_x hp
  exact ⟨Int.mul_pos d0 (MK.unit_pos hp.pk.s0), lb_mono (lb_mul db (ws_unit hp)) (by decide)⟩
theorem f_worth (T : Tx K mg) : C8.Cal P w K mg base 8 "worth" (sp_worth K) [] :=
  mkCal T.gworth T.d_worth sc_worth (fun _ _ _ _ _ _ us hl => match us, hl with | [_, _, _], _ => rfl) (lenP fun _ => rfl) (bodyP fun cdv A outer s H E hr i B D hp fin _ => by
    obtain ⟨sh, bl, d0, db, eb, _⟩ := ws_x hp
    obtain ⟨u0, ub⟩ := ws_under hp
    refine Sj.setT (Ev.call (f_solved T) hr (by decide) i hp (As.cons (Ev.v 0 rfl) (As.cons (Ev.v 1 rfl) (As.cons (Ev.v 2 rfl) As.nil)))) (gLt rfl (gLc (gName 3 sc_worth.nd) (gLc (gName 4 sc_worth.nd) gL0))) ?_
    exact Sj.ret (Ev.share T hr (by decide) u0 ub (ixl (Lv.core (ixl (Lv.core (Ev.fld (Lv.core (Ev.v 4 rfl)) T.cSolver T.nSolver_rows)) (Ev.neg Ev.int) (row_last sh))) (Ev.neg Ev.int) (ent_last sh (Nat.lt_succ_self _)))
      (Ev.mul (Ev.fld (Lv.core (Ev.v 4 rfl)) T.cSolver T.nSolver_divisor) (Ev.fld (Lv.core (Ev.v 3 rfl)) T.cPacking T.nPacking_unit) (sm_mul db (lb_mono (ws_unit hp) (by decide))))) fin (fun v C h => h) .n)
theorem sc_best : FnScope ["source", "changes", "level", "packing", "solver", "under", "place", "text"] ["source", "changes", "level"] (defScope s_best_row) := ⟨rfl, rfl, rfl, by decide +kernel, rfl, by decide +kernel, by decide +kernel⟩
noncomputable abbrev bsF (i : Tbl × Chs × Rat) (t : Str) : Rat := rq (MK.toldF (wsX i) (wsN i) ((tbK i.1).idxOf t)) ((wsX i).dv * (wsD i).unit)
abbrev rowY (K : PySem.W.Frag) (l : List (Str × Rat)) : Ty := tyTup (l.map fun q => tyTup [tyS q.1, tySh (CShare K) q.2])
abbrev sp_best (K : PySem.W.Frag) : Sp := spP WsPre (wsA K) (fun i => rowY K ((tbK i.1).map fun t => (t, bsF i t)))
theorem ws_nd {i : Tbl × Chs × Rat} (hp : WsPre i) : (tbK i.1).Nodup := srt_nodup hp.pk.tb.nd
theorem told_col {i : Tbl × Chs × Rat} {j : Nat} (hj : j < (tbK i.1).length) : j < wsN i + 1 := by
  have : (wsD i).texts.length = (tbK i.1).length := rfl
  have h : wsN i = (wsD i).texts.length + (pkS (wsD i)).length := rfl
  omega
theorem f_best (T : Tx K mg) : C8.Cal P w K mg base 8 "best_row" (sp_best K) [] :=
  mkCal T.gbest_row T.d_best_row sc_best (fun _ _ _ _ _ _ us hl => match us, hl with | [_, _, _], _ => rfl) (lenP fun _ => rfl) (bodyP fun cdv A outer s H E hr i B D hp fin _ => by
    obtain ⟨sh, bl, d0, db, eb, _⟩ := ws_x hp
    obtain ⟨u0, ub⟩ := ws_under hp
    have hd := ws_d hp
    have htl : (tbK i.1).length ≤ 12 := hd.tl
    refine Sj.setT (Ev.call (f_solved T) hr (by decide) i hp (As.cons (Ev.v 0 rfl) (As.cons (Ev.v 1 rfl) (As.cons (Ev.v 2 rfl) As.nil)))) (gLt rfl (gLc (gName 3 sc_best.nd) (gLc (gName 4 sc_best.nd) gL0))) ?_
    refine Sj.set 5 sc_best.nd (Ev.mul (Ev.fld (Lv.core (Ev.v 4 rfl)) T.cSolver T.nSolver_divisor) (Ev.fld (Lv.core (Ev.v 3 rfl)) T.cPacking T.nPacking_unit) (sm_mul db (lb_mono (ws_unit hp) (by decide)))) ?_
    refine Sj.ret (tupL T.f_tuple (Lv.core (Ev.lc (xs := (tbK i.1).zipIdx) (Rx := fun q => tyTup [tyI ((q.2 : Nat) : Int), tyS q.1]) [("place", 6), ("text", 7)] rfl sc_best.nd (Iv.enumTM (xs := tbK i.1) (Rx := tyS) T.f_enumerate (Ev.fld (Lv.core (Ev.v 3 rfl)) T.cPacking T.nPacking_texts)) (blkOk_by (N := ["source", "changes", "level", "packing", "solver", "under", "place", "text"]) (sc := defScope s_best_row) (by decide +kernel)) (fun x s0 H0 Cc cl fp => gLt rfl (gLc (gName 6 sc_best.nd) (gLc (gName 7 sc_best.nd) gL0))) (by decide) (by rw [List.length_zipIdx]; exact small1000 (by omega))
      (Ro := fun q => tyTup [tyS q.1, tySh (CShare K) (rq (MK.toldF (wsX i) (wsN i) q.2) ((wsX i).dv * (wsD i).unit))]) (fun q hq s0 H0 Cc cl fp D K => ?_)))) fin (fun v C h => ?_) .n
    · have hq2 : q.2 < (tbK i.1).length := (List.getElem?_eq_some_iff.mp (zip_mem hq)).1
      exact Ev.tup (As.cons (Ev.v 7 rfl) (As.cons (Ev.share T hr (by decide) u0 ub (Ev.meth (pl := _) (f_told T) hr (by decide) (wsX i, wsM i, wsN i, q.2) ⟨sh, bl, told_col hq2⟩ (Ev.v 4 rfl) (As.cons (Ev.v 6 rfl) As.nil)) (Ev.v 5 rfl)) As.nil))
    · have e : ((tbK i.1).map fun t => (t, bsF i t)).map (fun q => tyTup [tyS q.1, tySh (CShare K) q.2]) = (tbK i.1).zipIdx.map fun q => tyTup [tyS q.1, tySh (CShare K) (rq (MK.toldF (wsX i) (wsN i) q.2) ((wsX i).dv * (wsD i).unit))] := by
        rw [List.map_map]
        refine List.ext_getElem? fun j => ?_
        rw [List.getElem?_map, List.getElem?_map, List.getElem?_zipIdx]
        cases z : (tbK i.1)[j]? with
        | none => rfl
        | some t =>
          have hix := MK.idx_at (ws_nd hp) z
          simp only [Option.map_some, Function.comp, Nat.zero_add]
          show some (tyTup [tyS t, tySh (CShare K) (bsF i t)]) = _
          unfold bsF
          rw [hix]
      show (tyTup (((tbK i.1).map fun t => (t, bsF i t)).map fun q => tyTup [tyS q.1, tySh (CShare K) q.2])).r v C
      rw [e]; exact h)
end
end MF
set_option maxHeartbeats 4000000
/-! def: prices. -/
namespace MF
open PySem PySem.Spec L2 MT MJ
open PyProof.Rows hiding St
open MK (Mat SolS Shape ent risingF boundF betterF exchF lineF runS firstS stepS lastS lastK fact)
noncomputable abbrev wsU (i : Tbl × Chs × Rat) (k : Nat) : Int := ent (wsX i).rows (wsM i) ((wsD i).texts.length + k)
noncomputable def prU (i : Tbl × Chs × Rat) (t : Str) : Rat := rq (wsU i ((tbK i.1).idxOf t)) (wsX i).dv
noncomputable def prV (i : Tbl × Chs × Rat) (r : Str) : Rat := if r ∈ pkR i.1 i.2.1 then rq (wsU i ((tbK i.1).length + (pkR i.1 i.2.1).idxOf r)) (wsX i).dv else 0
section
variable {P : Program} {w : World} {K : PySem.W.Frag} {mg : Str → Option Value} {base : Heap}
abbrev NPr : List Str := ["source", "changes", "level", "packing", "solver", "many", "own", "asked", "others", "place", "text", "read"]
theorem sc_prices : FnScope NPr ["source", "changes", "level"] (defScope s_prices) := ⟨rfl, rfl, rfl, by decide +kernel, rfl, by decide +kernel, by decide +kernel⟩
abbrev sp_prices (K : PySem.W.Frag) : Sp := spP WsPre (wsA K) (fun i => tyTup [rowY K ((tbK i.1).map fun t => (t, prU i t)), rowY K ((srt (dst (flT i.2.1))).map fun r => (r, prV i r))])
theorem lb_small {n : Nat} (h : n ≤ 1000) : Lb 4000 (n : Int) := Nat.lt_of_le_of_lt (show _ ≤ 1000 by omega) (Nat.lt_of_lt_of_le (show 1000 < 2 ^ 10 by decide) (Nat.pow_le_pow_right (by decide) (by decide)))
theorem pk_nd (i : Tbl × Chs × Rat) (h : WsPre i) : (pkR i.1 i.2.1).Nodup := MK.nodup_of_map _ (MK.pick_nodup (MK.grpF (chG i.2.1) (tbK i.1)) _ [] List.nodup_nil)
theorem f_prices (T : Tx K mg) : C8.Cal P w K mg base 8 "prices" (sp_prices K) [] :=
  mkCal T.gprices T.d_prices sc_prices (fun _ _ _ _ _ _ us hl => match us, hl with | [_, _, _], _ => rfl) (lenP fun _ => rfl) (bodyP fun cdv A outer s H E hr i B D hp fin _ => by
    have hu := hu_of hr
    obtain ⟨sh, bl, d0, db, eb, _⟩ := ws_x hp
    have hd := ws_d hp
    have htl : (tbK i.1).length ≤ 12 := hd.tl
    have hgl : (pkR i.1 i.2.1).length ≤ 64 := by have := hd.gl; rwa [show (wsD i).groups = (pkR i.1 i.2.1).map _ from rfl, List.length_map] at this
    have hnd := pk_nd i hp
    have hM : wsM i = (tbK i.1).length + (pkR i.1 i.2.1).length := by
      show (MK.sidesF _ _).length = _
      rw [MK.sides_len]
      show (tbK i.1).length + ((pkR i.1 i.2.1).map _).length = _
      rw [List.length_map]
    have hN : wsN i = (tbK i.1).length + wsM i := rfl
    refine Sj.setT (Ev.call (f_solved T) hr (by decide) i hp (As.cons (Ev.v 0 rfl) (As.cons (Ev.v 1 rfl) (As.cons (Ev.v 2 rfl) As.nil)))) (gLt rfl (gLc (gName 3 sc_prices.nd) (gLc (gName 4 sc_prices.nd) gL0))) ?_
    refine Sj.set 5 sc_prices.nd (Ev.eq (lenT T.f_len (Lv.core (Ev.fld (Lv.core (Ev.v 3 rfl)) T.cPacking T.nPacking_texts))) (R' := tyI ((tbK i.1).length : Nat)) (by rw [List.length_map]; rfl)) ?_
    refine Sj.setLc (xs := (tbK i.1).zipIdx) (Rx := fun q => tyTup [tyI ((q.2 : Nat) : Int), tyS q.1]) 6 [("place", 9), ("text", 10)] rfl sc_prices.nd (Iv.enumTM (xs := tbK i.1) (Rx := tyS) T.f_enumerate (Ev.fld (Lv.core (Ev.v 3 rfl)) T.cPacking T.nPacking_texts)) (blkOk_by (N := NPr) (sc := defScope s_prices) (by decide +kernel)) (fun x s0 H0 Cc cl fp => gLt rfl (gLc (gName 9 sc_prices.nd) (gLc (gName 10 sc_prices.nd) gL0))) (by decide) (by rw [List.length_zipIdx]; exact small1000 (by omega))
      (Ro := fun q => tyTup [tyS q.1, tySh (CShare K) (rq (wsU i q.2) (wsX i).dv)]) (fun q hq s0 H0 Cc cl fp D K => ?_) ?_
    · have hq2 : q.2 < (tbK i.1).length := (List.getElem?_eq_some_iff.mp (zip_mem hq)).1
      exact Ev.tup (As.cons (Ev.v 10 rfl) (As.cons (Ev.share T hr (by decide) d0 (lb_mono db (by decide)) (Ev.meth (pl := _) (f_price T) hr (by decide) (wsX i, wsM i, wsN i, (wsD i).texts.length + q.2) ⟨sh, bl, by show (tbK i.1).length + q.2 < wsN i + 1; omega⟩ (Ev.v 4 rfl) (As.cons (Ev.eq (Ev.add (Ev.v 5 rfl) (Ev.v 9 rfl)) (by rw [← Int.natCast_add])) As.nil)) (Ev.fld (Lv.core (Ev.v 4 rfl)) T.cSolver T.nSolver_divisor)) As.nil))
    refine Sj.newD 7 sc_prices.nd fun q => ?_
    refine Sj.for_ (xs := (pkR i.1 i.2.1).zipIdx) (Rx := fun q => tyTup [tyI ((q.2 : Nat) : Int), tyS q.1]) rfl PassesOwn.never (Iv.enumM (xs := pkR i.1 i.2.1) (Rx := tyS) T.f_enumerate (Ev.fld (Lv.core (Ev.v 3 rfl)) T.cPacking T.nPacking_readers)) (fun x => gLt rfl (gLc (gName 9 sc_prices.nd) (gLc (gName 11 sc_prices.nd) gL0)))
      (fun n => [none, none, none, some (tyO (CPacking K) (pkFs (wsD i))), some (svT K (wsX i)), some (tyI ((tbK i.1).length : Nat)), some (tyLst ((tbK i.1).zipIdx.map fun q => tyTup [tyS q.1, tySh (CShare K) (rq (wsU i q.2) (wsX i).dv)])), some (tyP q), none, none, none, none]) (fun n => [(q, cD (vmap (tySh (CShare K)) ((pkR i.1 i.2.1).zipIdx.take n |>.map fun z => (z.1, rq (wsU i ((tbK i.1).length + z.2)) (wsX i).dv))))]) (.d (.d (.d (.k (.k (.k (.k (.k (.d (.d (.d (.d .n)))))))))))) (Wc.refl _) (fun B' _ _ _ n z hn => ?_) ?_
    · obtain ⟨hx, rfl⟩ := zip_at hn
      obtain ⟨r, n⟩ := z
      have hn2 : n < (pkR i.1 i.2.1).length := (List.getElem?_eq_some_iff.mp hx).1
      have ht : ((pkR i.1 i.2.1).zipIdx.take (n + 1)) = (pkR i.1 i.2.1).zipIdx.take n ++ [(r, n)] := by rw [List.take_succ, hn]; rfl
      have hnew : r ∉ (vmap (tySh (CShare K)) ((pkR i.1 i.2.1).zipIdx.take n |>.map fun z => (z.1, rq (wsU i ((tbK i.1).length + z.2)) (wsX i).dv))).map (·.1) := by
        rw [vmap_keys, List.map_map]
        intro hm
        obtain ⟨z, hz, e⟩ := List.mem_map.mp hm
        obtain ⟨j, hj⟩ := List.getElem?_of_mem hz
        have hjn : j < n := by have := (List.getElem?_eq_some_iff.mp hj).1; rw [List.length_take] at this; omega
        rw [List.getElem?_take_of_lt hjn] at hj
        obtain ⟨h1, h2⟩ := zip_at hj
        have e : z.1 = r := e
        rw [e] at h1
        have hx : (pkR i.1 i.2.1)[n]? = some r := hx
        have := nd_ix hnd h1 hx
        omega
      refine Sj.dput 0 hu (Ev.share T hr (by decide) d0 (lb_mono db (by decide)) (Ev.meth (pl := _) (f_price T) hr (by decide) (wsX i, wsM i, wsN i, (wsD i).texts.length + ((tbK i.1).length + n)) ⟨sh, bl, by show (tbK i.1).length + ((tbK i.1).length + n) < wsN i + 1; omega⟩ (Ev.v 4 rfl) (As.cons (Ev.eq (Ev.add (Ev.mul Ev.int (Ev.v 5 rfl) (sm_mul (by unfold Lb; decide) (lb_small (by omega)))) (Ev.v 9 rfl)) (congrArg tyI (show (2 : Int) * ((tbK i.1).length : Int) + (n : Int) = (((tbK i.1).length + ((tbK i.1).length + n) : Nat) : Int) by omega))) As.nil)) (Ev.fld (Lv.core (Ev.v 4 rfl)) T.cSolver T.nSolver_divisor)) (Ev.v 7 rfl) rfl (Ev.v 11 rfl) ?_ (Sj.at (.d (.d (.d (.k (.k (.k (.k (.k (.d (.d (.d (.d .n)))))))))))) (.c (fun o C h => ?_) .n))
      · unfold vmap
        rw [List.length_map, List.length_map, List.length_take, List.length_zipIdx]
        exact small1000 (by omega)
      · have e := dput_new hnew (a := tySh (CShare K) (rq (wsU i ((tbK i.1).length + n)) (wsX i).dv))
        rw [ht]
        have e2 : vmap (tySh (CShare K)) (((pkR i.1 i.2.1).zipIdx.take n ++ [(r, n)]).map fun z => (z.1, rq (wsU i ((tbK i.1).length + z.2)) (wsX i).dv)) = MJ.dput (vmap (tySh (CShare K)) ((pkR i.1 i.2.1).zipIdx.take n |>.map fun z => (z.1, rq (wsU i ((tbK i.1).length + z.2)) (wsX i).dv))) r (tySh (CShare K) (rq (wsU i ((tbK i.1).length + n)) (wsX i).dv)) := by
          rw [e]
          unfold vmap
          rw [List.map_append, List.map_append]; rfl
        show (cD _).r o C
        rw [e2]; exact h
    have hzl : (pkR i.1 i.2.1).zipIdx.take ((pkR i.1 i.2.1).zipIdx).length = (pkR i.1 i.2.1).zipIdx := List.take_length
    rw [hzl]
    generalize hA : ((pkR i.1 i.2.1).zipIdx.map fun z => (z.1, rq (wsU i ((tbK i.1).length + z.2)) (wsX i).dv)) = Al
    have hget : ∀ r, (dget Al r).getD 0 = prV i r := fun r => by
      have hk : Al.map (·.1) = pkR i.1 i.2.1 := by
        rw [← hA, List.map_map]
        refine List.ext_getElem? fun j => ?_
        rw [List.getElem?_map, List.getElem?_zipIdx]
        cases (pkR i.1 i.2.1)[j]? <;> rfl
      unfold prV
      by_cases hm : r ∈ pkR i.1 i.2.1
      · rw [if_pos hm]
        have hx := MK.idx_mem hm
        have hz : (r, (pkR i.1 i.2.1).idxOf r) ∈ (pkR i.1 i.2.1).zipIdx := List.mem_of_getElem? (i := (pkR i.1 i.2.1).idxOf r) (by rw [List.getElem?_zipIdx, hx]; simp)
        have hmem : (r, rq (wsU i ((tbK i.1).length + (pkR i.1 i.2.1).idxOf r)) (wsX i).dv) ∈ Al := by rw [← hA]; exact List.mem_map.mpr ⟨_, hz, rfl⟩
        rw [dget_mem (by rw [hk]; exact hnd) hmem]; rfl
      · rw [if_neg hm, dget_none.mpr (by rw [hk]; exact hm)]; rfl
    have hget2 : ∀ r, (dget (vmap (tySh (CShare K)) Al) r).getD (tySh (CShare K) (rq 0 1)) = tySh (CShare K) (prV i r) := fun r => by
      rw [dget_vmap, ← hget r, rq01]
      cases dget Al r <;> rfl
    have hrl : (srt (dst (flT i.2.1))).length < 64 := by rw [srt_length]; exact hp.pk.f2
    refine Sj.freeze 0 7 rfl rfl ?_
    refine Sj.setLc (xs := srt (dst (flT i.2.1))) (Rx := tyS) 8 [("read", 11)] rfl sc_prices.nd (Iv.tup (Ev.fld (Lv.core (Ev.v 3 rfl)) T.cPacking T.nPacking_readable)) (blkOk_by (N := NPr) (sc := defScope s_prices) (by decide +kernel)) (fun x s0 H0 Cc cl fp => gName 11 sc_prices.nd) (by decide) (small1000 (by omega))
      (Ro := fun r => tyTup [tyS r, tySh (CShare K) (prV i r)]) (fun r hr' s0 H0 Cc cl fp D K => Ev.tup (As.cons (Ev.v 11 rfl) (As.cons (dget2E (Lv.core (Ev.v 7 rfl)) (Ev.v 11 rfl) (Ev.share T hr (by decide) (by decide) (by unfold Lb; decide) Ev.int Ev.int) (fun U h => by rw [← h]; exact hget2 r) hu ⟨rfl, rfl, rfl, rfl⟩) As.nil))) ?_
    refine Sj.ret (Ev.tup (As.cons (tupL T.f_tuple (Lv.core (Ev.v 6 rfl))) (As.cons (tupL T.f_tuple (Lv.core (Ev.v 8 rfl))) As.nil))) fin (fun v C h => ?_) .n
    have e1 : ((tbK i.1).map fun t => (t, prU i t)).map (fun q => tyTup [tyS q.1, tySh (CShare K) q.2]) = (tbK i.1).zipIdx.map fun q => tyTup [tyS q.1, tySh (CShare K) (rq (wsU i q.2) (wsX i).dv)] := by
      rw [List.map_map]
      refine List.ext_getElem? fun j => ?_
      rw [List.getElem?_map, List.getElem?_map, List.getElem?_zipIdx]
      cases z : (tbK i.1)[j]? with
      | none => rfl
      | some t =>
        have hix := MK.idx_at (ws_nd hp) z
        simp only [Option.map_some, Function.comp, Nat.zero_add]
        show some (tyTup [tyS t, tySh (CShare K) (prU i t)]) = _
        unfold prU
        rw [hix]
    have e2 : ((srt (dst (flT i.2.1))).map fun r => (r, prV i r)).map (fun q => tyTup [tyS q.1, tySh (CShare K) q.2]) = (srt (dst (flT i.2.1))).map fun r => tyTup [tyS r, tySh (CShare K) (prV i r)] := by rw [List.map_map]; rfl
    show (tyTup [tyTup (((tbK i.1).map fun t => (t, prU i t)).map fun q => tyTup [tyS q.1, tySh (CShare K) q.2]), tyTup (((srt (dst (flT i.2.1))).map fun r => (r, prV i r)).map fun q => tyTup [tyS q.1, tySh (CShare K) q.2])]).r v C
    rw [e1, e2]; exact h)
end
end MF
set_option maxHeartbeats 4000000
/-! defs: marking_of_row, best_marking. -/
namespace MF
open PySem PySem.Spec L2 MT MJ
open PyProof.Rows hiding St
abbrev Rw := List (Str × Rat)
/-- the keys of a row: text, accused, share -/
abbrev K3 := Str × List Str × Rat
def mr1 (ch : Chs) (row : Rw) : List K3 := (row.filter fun q => decide (0 < q.2.num)).map fun q => (q.1, chG ch q.1, q.2)
def mr2 (tb : Tbl) (row : Rw) : List K3 := ((row.map fun q => (q.1, rq (tbW tb q.1) (tbS tb) - q.2)).filter fun q => decide (0 < q.2.num)).map fun q => (q.1, [], q.2)
def mrK (tb : Tbl) (ch : Chs) (row : Rw) : List K3 := mr1 ch row ++ mr2 tb row
def mrP (tb : Tbl) (ch : Chs) (row : Rw) : List Rat := (mrK tb ch row).map (·.2.2)
def mrW (tb : Tbl) (ch : Chs) (row : Rw) : List Int := (wpP (mrP tb ch row)).map fun p => p / wpG (wpP (mrP tb ch row))
def mrE (tb : Tbl) (ch : Chs) (row : Rw) : List En := (mrK tb ch row).zipIdx.map fun q => ((mrW tb ch row).getD q.2 0, q.1.1, q.1.2.1)
structure MrPre (i : Tbl × Chs × Rw) : Prop where
  tl : i.1.length < 64
  sub : ∀ t ∈ i.1.map (·.1), t ∈ i.2.1.map (·.1)
  rsub : ∀ q ∈ i.2.2, q.1 ∈ i.2.1.map (·.1)
  rl : i.2.2.length ≤ 100
  s0 : 0 < tbS i.1
  sb : Lb 4000 (tbS i.1)
  sm : ∀ q ∈ i.2.2, Sm q.2
  sw : ∀ q ∈ i.2.2, Sm (rq (tbW i.1 q.1) (tbS i.1))
  each : ∀ t, (chG i.2.1 t).length < 64
  wp : ∃ D, WpIn D (mrP i.1 i.2.1 i.2.2)
section
variable {P : Program} {w : World} {K : PySem.W.Frag} {mg : Str → Option Value} {base : Heap}
abbrev NMr : List Str := ["source", "changes", "row", "keys", "parts", "text", "share", "rest", "weights", "at"]
theorem sc_mrow : FnScope NMr ["source", "changes", "row"] (defScope s_marking_of_row) := ⟨rfl, rfl, rfl, by decide +kernel, rfl, by decide +kernel, by decide +kernel⟩
abbrev k3Y (k : K3) : Ty := tyTup [tyS k.1, txT k.2.1]
abbrev sp_mrow (K : PySem.W.Frag) : Sp := spP MrPre (fun i => [tyTb K i.1, tyCh K i.2.1, rowY K i.2.2]) (fun i => tyMk K (mkF (mrE i.1 i.2.1 i.2.2)))
theorem filter_take {α : Type} {p : α → Bool} {l : List α} {n : Nat} {x : α} (h : l[n]? = some x) : (l.take (n + 1)).filter p = (l.take n).filter p ++ (if p x then [x] else []) := by
  rw [List.take_succ, h, List.filter_append]
  show _ ++ [x].filter p = _
  cases hp : p x <;> simp [hp]
theorem mr1_take {ch : Chs} {row : Rw} {n : Nat} {q : Str × Rat} (h : row[n]? = some q) : mr1 ch (row.take (n + 1)) = mr1 ch (row.take n) ++ (if decide (0 < q.2.num) then [(q.1, chG ch q.1, q.2)] else []) := by
  unfold mr1
  rw [filter_take h, List.map_append]
  cases decide (0 < q.2.num) <;> rfl
theorem mr2_take {tb : Tbl} {row : Rw} {n : Nat} {q : Str × Rat} (h : row[n]? = some q) : mr2 tb (row.take (n + 1)) = mr2 tb (row.take n) ++ (if decide (0 < (rq (tbW tb q.1) (tbS tb) - q.2).num) then [(q.1, [], rq (tbW tb q.1) (tbS tb) - q.2)] else []) := by
  unfold mr2
  rw [List.map_take, filter_take (x := (q.1, rq (tbW tb q.1) (tbS tb) - q.2)) (by rw [List.getElem?_map, h]; rfl), List.map_append, List.map_take]
  cases decide (0 < (rq (tbW tb q.1) (tbS tb) - q.2).num) <;> rfl
theorem mr1_len (ch : Chs) (row : Rw) : (mr1 ch row).length ≤ row.length := by unfold mr1; rw [List.length_map]; exact List.length_filter_le _ _
theorem mr2_len (tb : Tbl) (row : Rw) : (mr2 tb row).length ≤ row.length := by
  unfold mr2
  rw [List.length_map]
  exact Nat.le_trans (List.length_filter_le _ _) (by rw [List.length_map]; exact Nat.le_refl _)
abbrev kT3 (l : List K3) : List Ty := l.map k3Y
abbrev pT3 (K : PySem.W.Frag) (l : List K3) : List Ty := l.map fun k => tySh (CShare K) k.2.2
theorem kT3_app (a b : List K3) : kT3 (a ++ b) = kT3 a ++ kT3 b := List.map_append ..
theorem pT3_app (K : PySem.W.Frag) (a b : List K3) : pT3 K (a ++ b) = pT3 K a ++ pT3 K b := List.map_append ..
theorem als_imp {α : Type} {R R' : α → Ty} {C : Hp} (f : ∀ x v, (R x).r v C → (R' x).r v C) : ∀ {xs : List α} {vs : List V}, Als (xs.map R) vs C → Als (xs.map R') vs C
  | [], _, .nil => .nil
  | _ :: _, _, .cons r t => .cons (f _ _ r) (als_imp f t)
theorem lst_imp {α : Type} {R R' : α → Ty} {xs : List α} {v : V} {C : Hp} (f : ∀ x v, (R x).r v C → (R' x).r v C) (h : (tyLst (xs.map R)).r v C) : (tyLst (xs.map R')).r v C := by
  obtain ⟨a, o, e, hp, vs, eo, al⟩ := h
  exact ⟨a, o, e, hp, vs, eo, als_imp f al⟩
theorem tup3_seq {a b : Ty} {l : List Str} {v : V} {C : Hp} (h : (tyTup [a, b, txT l]).r v C) : (tyTup [a, b, tySeq (l.map tyS)]).r v C := by
  obtain ⟨p, o, e, hp, vs, eo, al⟩ := h
  obtain ⟨x, y, z, rfl, r1, r2, r3⟩ := als3 al
  exact ⟨p, o, e, hp, _, eo, .cons r1 (.cons r2 (.cons (.inr r3) .nil))⟩
theorem f_mrow (T : Tx K mg) : C8.Cal P w K mg base 5 "marking_of_row" (sp_mrow K) [] :=
  mkCal T.gmarking_of_row T.d_marking_of_row sc_mrow (fun _ _ _ _ _ _ us hl => match us, hl with | [_, _, _], _ => rfl) (lenP fun _ => rfl) (bodyP fun cdv A outer s H E hr i B D hp fin _ => by
    obtain ⟨tb, ch, row⟩ := i
    have hrl : row.length ≤ 100 := hp.rl
    refine Sj.expr (Ev.call (f_known T) hr (by decide) (tb, ch) ⟨hp.tl, hp.sub⟩ (As.cons (Ev.v 0 rfl) (As.cons (Ev.v 1 rfl) As.nil))) ?_
    refine Sj.newL 3 sc_mrow.nd fun kq => ?_
    refine Sj.newL 4 sc_mrow.nd fun pq => ?_
    refine Sj.for_ (xs := row) (Rx := fun q => tyTup [tyS q.1, tySh (CShare K) q.2]) rfl PassesOwn.never (Iv.tup (Ev.v 2 rfl)) (fun x => gLt rfl (gLc (gName 5 sc_mrow.nd) (gLc (gName 6 sc_mrow.nd) gL0)))
      (fun n => [some (tyTb K tb), some (tyCh K ch), some (rowY K row), some (tyP kq), some (tyP pq), none, none, none, none, none]) (fun n => [(kq, cLst (kT3 (mr1 ch (row.take n)))), (pq, cLst (pT3 K (mr1 ch (row.take n))))]) (.k (.k (.k (.k (.k (.d (.d (.d (.d (.d .n)))))))))) (Wc.refl _) (fun B' _ _ _ n q hn => ?_) ?_
    · have hq : q ∈ row := List.mem_of_getElem? hn
      have hl1 := mr1_len ch (row.take n)
      rw [List.length_take] at hl1
      rw [mr1_take hn]
      refine Sj.if_ (Tv.gt (Ev.over T (Ev.v 6 rfl)) Ev.int) (fun h => ?_) (fun h => ?_)
      · rw [if_pos h.symm]
        refine Sj.append 0 (Ev.v 3 rfl) rfl (Ev.tup (As.cons (Ev.v 5 rfl) (As.cons (Ev.meth (pl := _) (f_chof T) hr (by decide) (ch, q.1, chG ch q.1) (chG_of (hp.rsub q hq)) (Ev.v 1 rfl) (As.cons (Ev.v 5 rfl) As.nil)) As.nil))) (by rw [List.length_map]; exact small1000 (by omega)) ?_
        refine Sj.append 1 (Ev.v 4 rfl) rfl (Ev.v 6 rfl) (by rw [List.length_map]; exact small1000 (by omega)) (Sj.go (Sj.at (.k (.k (.k (.k (.k (.d (.d (.d (.d (.d .n)))))))))) (.c (fun o C h => ?_) (.c (fun o C h => ?_) .n))) rfl)
        · rw [kT3_app]; exact h
        · rw [pT3_app]; exact h
      · rw [if_neg (by rw [← h]; decide), List.append_nil (mr1 ch (row.take n))]
        exact Sj.go (Sj.at (.k (.k (.k (.k (.k (.d (.d (.d (.d (.d .n)))))))))) (Wc.refl _)) rfl
    rw [List.take_length]
    refine Sj.for_ (xs := row) (Rx := fun q => tyTup [tyS q.1, tySh (CShare K) q.2]) rfl PassesOwn.never (Iv.tup (Ev.v 2 rfl)) (fun x => gLt rfl (gLc (gName 5 sc_mrow.nd) (gLc (gName 6 sc_mrow.nd) gL0)))
      (fun n => [some (tyTb K tb), some (tyCh K ch), some (rowY K row), some (tyP kq), some (tyP pq), none, none, none, none, none]) (fun n => [(kq, cLst (kT3 (mr1 ch row ++ mr2 tb (row.take n)))), (pq, cLst (pT3 K (mr1 ch row ++ mr2 tb (row.take n))))]) (.k (.k (.k (.k (.k (.d (.d (.d (.d (.d .n)))))))))) (.c (fun o C h => ?_) (.c (fun o C h => ?_) .n)) (fun B' _ _ _ n q hn => ?_) ?_
    · rw [List.take_zero]; show (cLst (kT3 (mr1 ch row ++ []))).r o C; rw [List.append_nil]; exact h
    · rw [List.take_zero]; show (cLst (pT3 K (mr1 ch row ++ []))).r o C; rw [List.append_nil]; exact h
    · have hq : q ∈ row := List.mem_of_getElem? hn
      have hl1 := mr1_len ch row
      have hl2 := mr2_len tb (row.take n)
      rw [List.length_take] at hl2
      rw [mr2_take hn, ← List.append_assoc (mr1 ch row) (mr2 tb (row.take n)) _]
      refine Sj.set 7 sc_mrow.nd (Ev.shSub T hr (by decide) (hp.sw q hq) (hp.sm q hq) (Ev.meth (pl := _) (f_tbshare T) hr (by decide) (tb, q.1) ⟨hp.s0, lb_mono hp.sb (by decide)⟩ (Ev.v 0 rfl) (As.cons (Ev.v 5 rfl) As.nil)) (Ev.v 6 rfl)) ?_
      refine Sj.if_ (Tv.gt (Ev.over T (Ev.v 7 rfl)) Ev.int) (fun h => ?_) (fun h => ?_)
      · rw [if_pos h.symm]
        refine Sj.append 0 (Ev.v 3 rfl) rfl (Ev.tup (As.cons (Ev.v 5 rfl) (As.cons (Ev.tup As.nil) As.nil))) (by rw [List.length_map, List.length_append]; exact small1000 (by omega)) ?_
        refine Sj.append 1 (Ev.v 4 rfl) rfl (Ev.v 7 rfl) (by rw [List.length_map, List.length_append]; exact small1000 (by omega)) (Sj.go (Sj.at (.k (.k (.k (.k (.k (.d (.d (.d (.d (.d .n)))))))))) (.c (fun o C h => ?_) (.c (fun o C h => ?_) .n))) rfl)
        · rw [kT3_app]; exact h
        · rw [pT3_app]; exact h
      · rw [if_neg (by rw [← h]; decide), List.append_nil (mr1 ch row ++ mr2 tb (row.take n))]
        exact Sj.go (Sj.at (.k (.k (.k (.k (.k (.d (.d (.d (.d (.d .n)))))))))) (Wc.refl _)) rfl
    rw [List.take_length]
    have hKl : (mrK tb ch row).length ≤ 200 := by
      unfold mrK
      rw [List.length_append]
      have := mr1_len ch row
      have := mr2_len tb row
      omega
    refine Sj.freeze 0 3 rfl rfl ?_
    refine Sj.freeze 0 4 rfl rfl ?_
    have eP : tyLst (pT3 K (mr1 ch row ++ mr2 tb row)) = tyLst ((mrP tb ch row).map (tySh (CShare K))) := by unfold mrP; rw [List.map_map]; rfl
    refine Sj.set 8 sc_mrow.nd (Ev.eq (Ev.call (f_whole T) hr (by decide) (mrP tb ch row) hp.wp (As.cons (Ev.eq (Ev.v 4 rfl) eP) As.nil)) (R' := tyTup ((mrW tb ch row).map tyI)) (by unfold mrW; rw [List.map_map]; rfl)) ?_
    have hWl : (mrW tb ch row).length = (mrK tb ch row).length := by unfold mrW wpP mrP; rw [List.length_map, List.length_map, List.length_map]
    have lenE : (mrE tb ch row).length = (mrK tb ch row).length := by unfold mrE; rw [List.length_map, List.length_zipIdx]
    have hWp : ∀ p ∈ mrW tb ch row, 1 ≤ p := fun p hp' => by
      obtain ⟨D0, hw⟩ := hp.wp
      obtain ⟨p0, h0, rfl⟩ := List.mem_map.mp hp'
      have h1 := wpP_mem hw h0
      have h2 := (wpG_dvd (wpP (mrP tb ch row)) 0 fun p hp => (wpP_mem hw hp).1).2 p0 h0
      have h3 : 0 ≤ wpG (wpP (mrP tb ch row)) := wpG_nn _ _ (by decide)
      have h2 : wpG (wpP (mrP tb ch row)) ∣ p0 := h2
      have := Int.ediv_pos_of_pos_of_dvd h1.1 h3 h2
      show 1 ≤ p0 / wpG (wpP (mrP tb ch row))
      omega
    have hMk : MkIn (mrE tb ch row) := by
      refine ⟨by rw [lenE]; omega, fun e he => ?_, fun e he => ?_⟩
      · obtain ⟨q, hq, rfl⟩ := List.mem_map.mp he
        have hq2 := zip_mem hq
        have hlt : q.2 < (mrW tb ch row).length := by rw [hWl]; exact (List.getElem?_eq_some_iff.mp hq2).1
        show 1 ≤ (mrW tb ch row).getD q.2 0
        rw [List.getD_eq_getElem?_getD, List.getElem?_eq_getElem hlt]
        exact hWp _ (List.getElem_mem hlt)
      · obtain ⟨q, hq, rfl⟩ := List.mem_map.mp he
        have hm : q.1 ∈ mrK tb ch row := List.mem_of_getElem? (zip_mem hq)
        show q.1.2.1.length < 64
        unfold mrK at hm
        rcases List.mem_append.mp hm with hm | hm
        · obtain ⟨x, _, e⟩ := List.mem_map.mp hm
          rw [← e]; exact hp.each _
        · obtain ⟨x, _, e⟩ := List.mem_map.mp hm
          rw [← e]; exact (by decide : (0 : Nat) < 64)
    refine Sj.ret (Ev.mk (f_marking T) hr (by decide) (mrE tb ch row) hMk (As.cons (Ev.conv (Ev.lc [("at", 9)] rfl sc_mrow.nd (Iv.range T.f_range (lenL T.f_len (Lv.core (Ev.v 3 rfl))) (by rw [List.length_map]; show ((mrK tb ch row).length : Int) < _; omega) (by omega)) (blkOk_by (N := NMr) (sc := defScope s_marking_of_row) (by decide +kernel)) (fun x s0 H0 Cc cl fp => gName 9 sc_mrow.nd) (by decide) (by rw [List.length_range, List.length_map]; show (((mrK tb ch row).length : Int)).toNat < _; exact small1000 (by omega))
      (Ro := fun k => tyTup [tyI ((mrW tb ch row).getD k 0), tyS ((mrK tb ch row).getD k ("", [], 0)).1, txT ((mrK tb ch row).getD k ("", [], 0)).2.1]) (fun k hk s0 H0 Cc cl fp D K' => ?_)) (fun v C h => ?_)) As.nil)) fin (fun v C h => h) .n
    · have hk2 : k < (mrK tb ch row).length := by
        have := List.mem_range.mp hk
        rw [List.length_map] at this
        have this : k < (((mrK tb ch row).length : Int)).toNat := this
        omega
      have hkk : (kT3 (mr1 ch row ++ mr2 tb row))[k]? = some (k3Y ((mrK tb ch row).getD k ("", [], 0))) := by
        rw [List.getElem?_map, show (mr1 ch row ++ mr2 tb row) = mrK tb ch row from rfl, List.getD_eq_getElem?_getD, List.getElem?_eq_getElem hk2]; rfl
      have hww : ((mrW tb ch row).map tyI)[k]? = some (tyI ((mrW tb ch row).getD k 0)) := by
        rw [List.getElem?_map, List.getD_eq_getElem?_getD, List.getElem?_eq_getElem (by omega)]; rfl
      exact Ev.tup (As.cons (ixt (Lv.core (Ev.v 8 rfl)) (Ev.v 9 rfl) (ati_nat hww)) (As.cons (ixt (Lv.core (ixl (Lv.core (Ev.v 3 rfl)) (Ev.v 9 rfl) (ati_nat hkk))) Ev.int rfl) (As.cons (ixt (Lv.core (ixl (Lv.core (Ev.v 3 rfl)) (Ev.v 9 rfl) (ati_nat hkk))) Ev.int rfl) As.nil)))
    · have e : (mrE tb ch row).map enIn = (List.range ((kT3 (mr1 ch row ++ mr2 tb row)).length : Int).toNat).map fun k => enIn ((mrW tb ch row).getD k 0, ((mrK tb ch row).getD k ("", [], 0)).1, ((mrK tb ch row).getD k ("", [], 0)).2.1) := by
        unfold mrE
        rw [List.map_map]
        have e1 : ((kT3 (mr1 ch row ++ mr2 tb row)).length : Int).toNat = (mrK tb ch row).length := by rw [List.length_map, Int.toNat_natCast]; rfl
        rw [e1]
        refine List.ext_getElem? fun j => ?_
        rw [List.getElem?_map, List.getElem?_map, List.getElem?_zipIdx]
        by_cases hj : j < (mrK tb ch row).length
        · have hgd : (mrK tb ch row).getD j ("", [], 0) = (mrK tb ch row)[j] := by rw [List.getD_eq_getElem?_getD, List.getElem?_eq_getElem hj]; rfl
          rw [List.getElem?_range hj, List.getElem?_eq_getElem hj]
          simp only [Option.map_some, Function.comp, Nat.zero_add, hgd]
        · rw [List.getElem?_eq_none (by omega), List.getElem?_eq_none (by rw [List.length_range]; omega)]; rfl
      rw [e]
      exact lst_imp (fun k v h => tup3_seq h) h)
theorem sc_bmark : FnScope ["source", "changes", "level"] ["source", "changes", "level"] (defScope s_best_marking) := ⟨rfl, rfl, rfl, by decide +kernel, rfl, by decide +kernel, by decide +kernel⟩
noncomputable abbrev bmR (i : Tbl × Chs × Rat) : Rw := (tbK i.1).map fun t => (t, bsF i t)
structure BmPre (i : Tbl × Chs × Rat) : Prop where
  ws : WsPre i
  mr : MrPre (i.1, i.2.1, bmR i)
noncomputable abbrev bmE (i : Tbl × Chs × Rat) : List En := mkF (mrE i.1 i.2.1 (bmR i))
abbrev sp_bmark (K : PySem.W.Frag) : Sp := spP BmPre (wsA K) (fun i => tyMk K (bmE i))
theorem f_bmark (T : Tx K mg) : C8.Cal P w K mg base 9 "best_marking" (sp_bmark K) [] :=
  mkCal T.gbest_marking T.d_best_marking sc_bmark (fun _ _ _ _ _ _ us hl => match us, hl with | [_, _, _], _ => rfl) (lenP fun _ => rfl) (bodyP fun cdv A outer s H E hr i B D hp fin _ => by
    refine Sj.expr (Ev.call (f_known T) hr (by decide) (i.1, i.2.1) ⟨hp.mr.tl, hp.mr.sub⟩ (As.cons (Ev.v 0 rfl) (As.cons (Ev.v 1 rfl) As.nil))) ?_
    exact Sj.ret (Ev.call (f_mrow T) hr (by decide) (i.1, i.2.1, bmR i) hp.mr (As.cons (Ev.v 0 rfl) (As.cons (Ev.v 1 rfl) (As.cons (Ev.call (f_best T) hr (by decide) i hp.ws (As.cons (Ev.v 0 rfl) (As.cons (Ev.v 1 rfl) (As.cons (Ev.v 2 rfl) As.nil)))) As.nil)))) fin (fun v C h => h) .n)
end
end MF
set_option maxHeartbeats 4000000
/-! the law's defs: the stream. -/
namespace MJ
open PySem PySem.Spec L2
open PyProof.Rows hiding St
section
variable {X : Cx} {B : Bs} {Γ Γ' : Gm} {W W' : Wl} {a b c e o tg iter value : Expr} {es : List Expr} {pos pos' apos p spos : Pos} {R T : Ty} {Ts Us : List Ty} {K : Con} {x f m : Str} {i j : Int} {C H : Hp}
variable {st : Stmt} {rest A E body : List Stmt} {D : Ends}
theorem Ev.mulC (ha : Ev X B Γ W a (tyI i)) (hb : Ev X B Γ W b (tyI j)) (h : CMul i j) : Ev X B Γ W (.BinOp a .Mult b pos) (tyI (i * j)) := Ev.op op_mul ha hb fun x y C H Q E r1 r2 k => ⟨i, j, r1, r2, h, k _ C H (Same.refl _) E rfl⟩
/-- an owned thing that is told by a property: any such -/
theorem Sj.openW {α : Type} {P : α → Prop} {Rk : α → Con} {q : Addr} (jw : Nat) (hj : W[jw]? = some (q, cEx P Rk)) (h : ∀ z, P z → Sj X B Γ (W.set jw (q, Rk z)) rest D) : Sj X B Γ W rest D := fun σ C H S => by
  obtain ⟨o, h1, m, z, pz, r⟩ := S.en.look hj
  have E := S.en.put (K' := Rk z) (o' := o) hj m r
  have e : upd H q o = H := by
    funext b; unfold upd; split
    · rename_i w; rw [w, h1]
    · rfl
  rw [e] at E
  exact h z pz σ C H ⟨S.sl, E⟩
/-- a new owned object is the callee's answer -/
theorem EntE.downO (E : EntE B C W H) : ∃ g, EntE ⟨C, g⟩ C [] H ∧ ∀ C' H' q K, EntE ⟨C, g⟩ C' [(q, K)] H' → Same C C' ∧ EntE B C' (W ++ [(q, K)]) H' := by
  obtain ⟨G, E⟩ := E
  refine ⟨G, ⟨G, E.gh, E.ch, Same.refl _, fun a o o' e _ => e, Same.refl _, by simp, fun q hq => by simp at hq⟩, fun C' H' q K ⟨G', E'⟩ => ?_⟩
  obtain ⟨b1, b2, o, b3, b4, b5⟩ := E'.ow (q, K) (by simp)
  have b1 : G q = none := b1
  refine ⟨E'.cc, upd G q o, fun a u e => ?_, E'.ch, E.cc.trans E'.cc, fun a u u' e e' => ?_, E.g0.trans (same_upd b1), ?_, fun z hz => ?_⟩
  · by_cases ha : a = q
    · subst ha; rw [upd_same] at e; cases e; exact E'.gh _ _ b3
    · rw [upd_ne ha] at e; exact E'.gh a u (E'.g0 a u e)
  · have ha : a ≠ q := fun z => by subst z; rw [b2] at e; cases e
    rw [upd_ne ha] at e'
    exact E.dj a u u' (E'.dj a u u' e (E'.g0 a u' e')) e'
  · rw [List.map_append, List.nodup_append]
    refine ⟨E.nd, by simp, fun a ha b hb => ?_⟩
    obtain ⟨z, hz, rfl⟩ := List.mem_map.mp ha
    have hb' : b = q := by simpa using hb
    subst hb'
    obtain ⟨_, _, o', a3, _⟩ := E.ow z hz
    intro y; rw [y, b1] at a3; cases a3
  · rcases List.mem_append.mp hz with hz | hz
    · obtain ⟨a1, a2, u, a3, a4, a5⟩ := E.ow z hz
      have ha : z.1 ≠ q := fun y => by rw [y, b1] at a3; cases a3
      refine ⟨a1, ?_, u, by rw [upd_ne ha]; exact a3, a4, z.2.mono E'.cc a5⟩
      cases y : C' z.1 with
      | none => rfl
      | some o2 =>
        have z2 : C z.1 = some o2 := E'.dj z.1 o2 u y (E'.g0 _ _ a3)
        rw [a2] at z2; cases z2
    · have e : z = (q, K) := by simpa using hz
      subst e
      exact ⟨E.g0.free b1, b2, o, upd_same, b4, b5⟩
def spO {ι : Type} (pre : ι → Prop) (ar : ι → List Ty) (Kr : ι → Con) : Sp := fun vs H Q _ => ∃ (i : ι) (C g : Hp), pre i ∧ EntE ⟨C, g⟩ C [] H ∧ Als (ar i) vs C ∧ ∀ q C' H', EntE ⟨C, g⟩ C' [(q, Kr i)] H' → Q (.ref q) H'
def FinO (B : Bs) (K : Con) (D : Ends) : Prop := ∀ q C H, EntE B C [(q, K)] H → D.rt (.ref q) H
variable {ι : Type} {pre : ι → Prop} {ar : ι → List Ty} {Kr : ι → Con} {k n : Nat}
theorem Sj.retL (ha : As X B Γ [] es Ts) (fin : FinO B K D) (hk : ∀ vs C, Als Ts vs C → K.r (.lst vs) C) (hl : Ts.length ≤ sizeLine) : Sj X B Γ [] (.Return (some (.List es pos)) spos :: rest) D := fun σ C H S =>
  cons_ (ps_ret (pe_lst pa_s)) (fun pos pins s I => ha σ C H S _ (fun vs C1 H1 s1 E1 al => ⟨by rw [← Paired.length al]; exact hl, fun q hq => fin q C1 _ (E1.own hq trivial (hk vs C1 al))⟩) pos pins s I)
theorem bodyO {P : Program} {w : World} {K : PySem.W.Frag} {mg : Str → Option Value} {base : Heap} {N : List Str} {qual : Str} {st : Stmt} {f : Addr} {k : Nat}
    (h : BodyT P w K mg base N qual st f k fun X => ∀ (i : ι) (B : Bs) (D : Ends), pre i → FinO B (Kr i) D → Sj X B (stG (ar i) N.length) [] (defBody st) D) :
    ∀ (cdv : Value) (A : Around) (outer : List Env) (s : Shared) (H : Hp) (vs : List V) (Q : VK) (E : XK), Room k (A.deeper (envOfC qual (defScope st) s.heap.objs.size f cdv)) → spO pre ar Kr vs H Q E →
      ∃ t, PSs (cxOf CX0 P w K mg base N qual (defScope st) f cdv A outer s H E).nox (defBody st) t ∧ t { nx := fun _ H' => Q .non H', rt := Q } (L2.start N vs) H := by
  rintro cdv A outer s H vs Q E hr ⟨i, C, g, hp, En, al, q⟩
  exact ⟨_, pb_s, h cdv A outer s H E hr i ⟨C, g⟩ _ hp (fun v C' H' E' => q v C' H' E') _ C H ⟨sl_start al, En⟩⟩
theorem lenO {n : Nat} (h : ∀ i, (ar i).length = n) : ∀ vs H Q E, spO pre ar Kr vs H Q E → vs.length = n := fun vs H Q E ⟨i, C, g, hp, En, al, q⟩ => by rw [← h i]; exact (Paired.length al).symm
/-- the call of such a def -/
theorem callO_ (c : C8.Cal X.prog X.w X.K X.mg X.base k x (spO pre ar Kr) []) (hr : Room n X.A) (hk : k ≤ n) (i : ι) (hp : pre i) (ha : As X B Γ W (e :: es) (ar i)) (hg : Gl X x)
    (hdb : (x == ("__debug__" : Str)) = false) (he : starEach (e :: es) X.env = (false, eval e X.env) :: starEach es X.env) (hpl : (backTo pos (starEach es X.env)).any (·.1) = false)
    {σ : L2.St} {C H : Hp} (S : Stt B Γ W σ C H) {Q : VK} (q : ∀ z C' H', Same C C' → EntE B C' (W ++ [(z, Kr i)]) H' → Q (.ref z) H') : sE X (.Call (.Name x p) (e :: es) [] pos) σ H Q :=
  toE (C8.pe_c c hr hk hg pa_s hdb he hpl) (show tCall _ _ _ (sA X (e :: es)) σ H Q from fun pos pins s I => ha σ C H S _ (fun vs C1 H1 s1 E1 al => by
    obtain ⟨g, E2, up⟩ := E1.downO
    exact ⟨i, C1, g, hp, E2, by rw [List.append_nil]; exact al, fun z C' H' E' => let ⟨s', E3⟩ := up C' H' z _ E'; q z C' H' (s1.trans s') E3⟩) pos pins s I)
theorem Sj.setO {y : Str} (iy : Nat) (nd : X.N.Nodup) (c : C8.Cal X.prog X.w X.K X.mg X.base k x (spO pre ar Kr) []) (hr : Room n X.A) (hk : k ≤ n) (i : ι) (hp : pre i) (ha : As X B Γ W (e :: es) (ar i)) (hrest : ∀ z, Sj X B (Γ.set iy (some (tyP z))) (W ++ [(z, Kr i)]) rest D) (hg : Gl X x := by rfl)
    (hi : X.N[iy]? = some y := by rfl) (hx : Loc X.env.scope y := by first | exact Or.inl rfl | exact Or.inr rfl)
    (hs : swapsWith (.Call (.Name x p) (e :: es) [] pos) (some (.Name y pos')) spos.line X.env = pure false := by rfl) (hf : X.fn y = true ∨ X.env.scope.names.lookup y = some .local := by first | exact .inl rfl | exact .inr rfl)
    (hdb : (x == ("__debug__" : Str)) = false := by decide) (he : starEach (e :: es) X.env = (false, eval e X.env) :: starEach es X.env := by rfl) (hpl : (backTo pos (starEach es X.env)).any (·.1) = false := by rfl) :
    Sj X B Γ W (.Assign [.Name y pos'] (.Call (.Name x p) (e :: es) [] pos) spos :: rest) D := fun σ C H S =>
  cons_ (ps_set nd hi hx pe_s hs hf) (callO_ c hr hk i hp ha hg hdb he hpl S fun z C' H' s E => hrest z _ C' H' ⟨Sl.set iy (S.sl.mono s) rfl, E⟩)
/-! the script -/
def tyScr (F : PySem.W.Frag) (xs : List Int) : Ty := ⟨fun v H => ∃ a, v = .ref a ∧ ((∃ ob, H a = some (.frz ob (.lst (xs.map V.int)))) ∨ ∃ (o : Obj) (its : Array Value) (n : Nat), F.lookup a = some o ∧ o.cls = .type "list" ∧ o.dict = none ∧ o.data = .seq its n ∧ its.size ≤ sizeLine ∧ Vals (xs.map V.int) its.toList), fun s ⟨a, e, h⟩ => ⟨a, e, h.imp (fun ⟨ob, h⟩ => ⟨ob, s a _ h⟩) id⟩⟩
theorem getScr {C H : Hp} {xs : List Int} {v : V} (E : EntE B C W H) (h : (tyScr X.K xs).r v C) : ∃ a, v = .ref a ∧ SqL X.K H a (xs.map V.int) := by
  obtain ⟨a, rfl, hc⟩ := h
  refine ⟨a, rfl, ?_⟩
  rcases hc with ⟨ob, hc⟩ | hk
  rotate_left
  · exact .inr hk
  rcases E.ch a _ hc with h | ⟨_, _, e, _⟩
  · exact .inl (.inr ⟨ob, h⟩)
  · cases e
theorem lenScr {xs : List Int} (hm : X.mg "len" = none) (h : Ev X B Γ W e (tyScr X.K xs)) (hg : Gl X "len" := by rfl) (he : starEach [e] X.env = (false, eval e X.env) :: starEach [] X.env := by rfl) (hpl : (backTo pos (starEach [] X.env)).any (·.1) = false := by rfl) : Ev X B Γ W (.Call (.Name "len" p) [e] [] pos) (tyI xs.length) :=
  Ev.bi call_len_seq hm PySem.boot_len (.cons h .nil he) (fun vs C H Q E al k => by
    obtain ⟨v, rfl, r⟩ := als1 al
    obtain ⟨a, rfl, hs⟩ := getScr (X := X) E r
    exact ⟨a, _, rfl, .inl hs, by rw [List.length_map]; exact k _ C H (Same.refl _) E rfl⟩) hg (by decide) (by decide) he hpl
theorem ixScr {xs : List Int} {z : Int} (h : Ev X B Γ W a (tyScr X.K xs)) (hi : Ev X B Γ W b (tyI i)) (hz : atI xs i = some z) (hs : PlainIx b := by exact fun _ _ => rfl) : Ev X B Γ W (.Subscript a b pos) (tyI z) := fun σ C H S Q k =>
  toE (pe_ix ix_list pe_s pe_s hs) (h σ C H S _ fun v C1 H1 s1 E1 r1 => hi σ C1 H1 (S.go s1 E1) _ fun y C2 H2 s2 E2 r2 => by
    obtain ⟨q, rfl, hs⟩ := getScr (X := X) E2 ((tyScr X.K xs).mono s2 r1)
    refine ⟨q, _, i, .int z, rfl, r2, hs, ?_, k _ C2 H2 (s1.trans s2) E2 rfl⟩
    unfold atI at hz ⊢
    rw [List.length_map]
    cases hn : ixN xs.length i with
    | none => rw [hn] at hz; cases hz
    | some j => rw [hn] at hz; show (xs.map V.int)[j]? = _; rw [List.getElem?_map]; have hz : xs[j]? = some z := hz; rw [hz]; rfl)
end
def cStr : Con := cEx (fun _ : Int × Int × Int => True) fun z => cLst [tyI z.1, tyI z.2.1, tyI z.2.2]
end MJ
set_option maxHeartbeats 4000000
/-! the law's defs: is_whole, lowest, add. -/
namespace MF
open PySem PySem.Spec L2 MT MJ
open PyProof.Rows hiding St
section
variable {P : Program} {w : World} {K : PySem.W.Frag} {mg : Str → Option Value} {base : Heap}
theorem sc_liw : FnScope ["_law_told"] ["_law_told"] (defScope s_l_is_whole) := ⟨rfl, rfl, rfl, by decide +kernel, rfl, by decide +kernel, by decide +kernel⟩
theorem f_liw (T : Tx K mg) : C8.Cal P w K mg base 1 "_law_is_whole" (spP (fun _ : Int => True) (fun i => [tyI i]) (fun _ => tyB true)) [] :=
  mkCal T.g_law_is_whole T.d_l_is_whole sc_liw (fun _ _ _ _ _ _ us hl => match us, hl with | [_], _ => rfl) (lenP fun _ => rfl) (bodyP fun cdv A outer s H E hr i B D _ fin _ => by
    exact Sj.ret (Ev.andB (Ev.isInt T (Ev.v 0 rfl)) fun _ => Ev.oneB (Ev.notB (Ev.isBool T (Ev.v 0 rfl)))) fin (fun v C h => h) .n)
/-- Euclid, that stops -/
def eu (a b : Int) : Nat → Int × Int
  | 0 => (a, b)
  | n + 1 => if (eu a b n).2 = 0 then eu a b n else ((eu a b n).2, (eu a b n).1 % (eu a b n).2)
theorem eu_ok {a b : Int} (ha : 0 ≤ a) (hb : 0 ≤ b) : ∀ n, 0 ≤ (eu a b n).1 ∧ 0 ≤ (eu a b n).2 ∧ Int.gcd (eu a b n).1 (eu a b n).2 = Int.gcd a b
  | 0 => ⟨ha, hb, rfl⟩
  | n + 1 => by
    obtain ⟨h1, h2, h3⟩ := eu_ok ha hb n
    rw [eu]
    split
    · exact ⟨h1, h2, h3⟩
    · rename_i hz
      exact ⟨h2, Int.emod_nonneg _ hz, (gcd_step h1 (by omega)).trans h3⟩
theorem eu_two {a b : Int} (ha : 0 ≤ a) (hb : 0 ≤ b) (n : Nat) : 2 * (eu a b (n + 2)).2 ≤ (eu a b n).2 := by
  obtain ⟨h1, h2, h3⟩ := eu_ok ha hb n
  by_cases z : (eu a b n).2 = 0
  · have e1 : eu a b (n + 1) = eu a b n := by rw [eu, if_pos z]
    have e2 : eu a b (n + 2) = eu a b n := by rw [eu, e1, if_pos z]
    rw [e2, z]; decide
  · have e1 : eu a b (n + 1) = ((eu a b n).2, (eu a b n).1 % (eu a b n).2) := by rw [eu, if_neg z]
    have l := Int.emod_lt_of_pos (eu a b n).1 (show 0 < (eu a b n).2 by omega)
    have l0 := Int.emod_nonneg (eu a b n).1 z
    have e2 : eu a b (n + 2) = if (eu a b (n + 1)).2 = 0 then eu a b (n + 1) else ((eu a b (n + 1)).2, (eu a b (n + 1)).1 % (eu a b (n + 1)).2) := by rw [eu]
    rw [e2, e1]
    split
    · rename_i h
      have h : (eu a b n).1 % (eu a b n).2 = 0 := h
      show 2 * ((eu a b n).1 % (eu a b n).2) ≤ _
      omega
    · rename_i h
      have h : ¬ (eu a b n).1 % (eu a b n).2 = 0 := h
      show 2 * ((eu a b n).2 % ((eu a b n).1 % (eu a b n).2)) ≤ (eu a b n).2
      generalize (eu a b n).1 % (eu a b n).2 = r at *
      generalize (eu a b n).2 = y at *
      have hr : 0 < r := by omega
      have m1 := Int.emod_lt_of_pos y hr
      have m2 := Int.mul_ediv_add_emod y r
      have m3 : 1 ≤ y / r := (Int.le_ediv_iff_mul_le hr).mpr (by omega)
      have m4 : r ≤ r * (y / r) := by have := Int.mul_le_mul_of_nonneg_left m3 (show 0 ≤ r by omega); omega
      omega
theorem eu_pow {a b : Int} (ha : 0 ≤ a) (hb : 0 ≤ b) : ∀ k, 2 ^ k * (eu a b (2 * k)).2 ≤ b
  | 0 => by show 2 ^ 0 * b ≤ b; omega
  | k + 1 => by
    have h := eu_pow ha hb k
    have t := eu_two ha hb (2 * k)
    rw [Int.pow_succ, Int.mul_assoc]
    have := Int.mul_le_mul_of_nonneg_left t (show (0 : Int) ≤ 2 ^ k from Int.le_of_lt (Int.pow_pos (by decide)))
    exact Int.le_trans this h
theorem eu_end {a b : Int} (ha : 0 ≤ a) (hb : 0 ≤ b) {k : Nat} (hk : b < 2 ^ k) : (eu a b (2 * k)).2 = 0 := by
  have h := eu_pow ha hb k
  have p : (0 : Int) < 2 ^ k := Int.pow_pos (by decide)
  have q := (eu_ok ha hb (2 * k)).2.1
  by_cases z : (eu a b (2 * k)).2 = 0
  · exact z
  · have := Int.mul_le_mul_of_nonneg_left (show 1 ≤ (eu a b (2 * k)).2 by omega) (Int.le_of_lt p)
    omega
theorem eu_stay {a b : Int} {n : Nat} (h : (eu a b n).2 = 0) : eu a b (n + 1) = eu a b n := by rw [eu, if_pos h]
theorem Sj.two {X : Cx} {B : Bs} {Γ Γe : Gm} {W We : Wl} {st : Stmt} {rest : List Stmt} {D : Ends} (h1 : Sj X B Γe We rest D) (h2 : Sj X B Γe We rest D → Sj X B Γ W (st :: rest) D) : Sj X B Γ W (st :: rest) D := h2 h1
theorem sc_llow : FnScope ["_law_over", "_law_under", "_law_left", "_law_right", "_law_step"] ["_law_over", "_law_under"] (defScope s_l_lowest) := ⟨rfl, rfl, rfl, by decide +kernel, rfl, by decide +kernel, by decide +kernel⟩
theorem f_llow (T : Tx K mg) : C8.Cal P w K mg base 1 "_law_lowest" (spP (fun i : Int × Int => 0 < i.2 ∧ Lb 8000 i.2) (fun i => [tyI i.1, tyI i.2]) (fun i => tyTup [tyI (rq i.1 i.2).num, tyI ((rq i.1 i.2).den : Int)])) [] :=
  mkCal T.g_law_lowest T.d_l_lowest sc_llow (fun _ _ _ _ _ _ us hl => match us, hl with | [_, _], _ => rfl) (lenP fun _ => rfl) (bodyP fun cdv A outer s H E hr i B D ⟨hu, hb⟩ fin finN => by
    have a0 : (0 : Int) ≤ (i.1.natAbs : Int) := Int.natCast_nonneg _
    have b0 : (0 : Int) ≤ i.2 := by omega
    have hgc : Int.gcd (i.1.natAbs : Int) i.2 = Int.gcd (i.1.natAbs : Int) (i.2.natAbs : Int) := by rw [Int.natAbs_of_nonneg b0]
    have hg : 0 < Int.gcd (i.1.natAbs : Int) (i.2.natAbs : Int) := Int.gcd_pos_of_ne_zero_right _ (by omega)
    have hd : ∀ x, CDivW x (Int.gcd (i.1.natAbs : Int) (i.2.natAbs : Int) : Nat) := fun x => wide_div (by omega) (b := 8000) (Nat.lt_of_le_of_lt (Nat.le_of_dvd (by omega) (by
      show Int.gcd (i.1.natAbs : Int) (i.2.natAbs : Int) ∣ i.2.natAbs
      exact Nat.gcd_dvd_right _ _)) hb) (by decide) (by decide)
    have hbit : Builtin.Int.intBits i.2 ≤ 8000 := PySem.intBits_le_iff.mpr hb
    have hbl : i.2 < 2 ^ (Builtin.Int.intBits i.2) := by
      have := PySem.intBits_le_iff.mp (Nat.le_refl (Builtin.Int.intBits i.2))
      have h2 : (i.2.natAbs : Int) < ((2 ^ Builtin.Int.intBits i.2 : Nat) : Int) := Int.ofNat_lt.mpr this
      rw [Int.natAbs_of_nonneg b0] at h2
      simpa using h2
    refine Sj.set 2 sc_llow.nd (absI T.f_abs (Ev.v 0 rfl)) ?_
    refine Sj.set 3 sc_llow.nd (Ev.v 1 rfl) ?_
    refine Sj.two (Γe := [some (tyI i.1), some (tyI i.2), some (tyI (Int.gcd (i.1.natAbs : Int) (i.2.natAbs : Int) : Nat)), none, none]) (We := []) ?_ fun hl => ?_
    · exact Sj.ret (Ev.tup (As.cons (Ev.div (Ev.v 0 rfl) (Ev.v 2 rfl) (hd _)) (As.cons (Ev.div (Ev.v 1 rfl) (Ev.v 2 rfl) (hd _)) As.nil))) fin (fun v C h => by rw [rq_num hu, rq_den hu]; exact h) .n
    have gz : ∀ n, (eu (i.1.natAbs : Int) i.2 n).2 = 0 → (eu (i.1.natAbs : Int) i.2 n).1 = (Int.gcd (i.1.natAbs : Int) (i.2.natAbs : Int) : Nat) := fun n hz => by
      obtain ⟨h1, h2, h3⟩ := eu_ok a0 b0 n
      rw [hz, Int.gcd_zero] at h3
      rw [← hgc, ← h3, Int.natAbs_of_nonneg h1]
    generalize hN : (2 * (Builtin.Int.intBits i.2 : Int) + 2) = N
    refine Sj.for_ (xs := List.range N.toNat) (Rx := fun k => tyI (k : Int)) (is := [4]) (Tx := fun k => [tyI (k : Int)]) rfl PassesOwn.never (Iv.range T.f_range (n := N) (Ev.eq (Ev.add (Ev.mul Ev.int (bitsE (Ev.v 1 rfl)) ?_) Ev.int) ?_) ?_ ?_) (fun x => gName 4 sc_llow.nd)
      (fun n => [some (tyI i.1), some (tyI i.2), some (tyI (eu (i.1.natAbs : Int) i.2 n).1), some (tyI (eu (i.1.natAbs : Int) i.2 n).2), none]) (fun _ => []) (.k (.k (.k (.k (.d .n))))) (Wc.refl _) (fun B' _ bk _ n z hn => ?_) ?_
    · exact wide_mul (a := 2) (b := 13) (by decide) (by omega) (by decide) (by decide) (by decide)
    · exact congrArg tyI hN
    · omega
    · omega
    · refine Sj.if_ (Tv.eqI (Ev.v 3 rfl) Ev.int) (fun hz => ?_) (fun hz => ?_)
      · have hz : (eu (i.1.natAbs : Int) i.2 n).2 = 0 := of_decide_eq_true hz.symm
        refine Sj.brk fun σ C H S => hl σ C H ((bk _ _ _ _ _ S).ws ?_ (Wc.refl _))
        rw [gz n hz]
        exact .k (.k (.k (.d (.d .n))))
      · have hz : ¬ (eu (i.1.natAbs : Int) i.2 n).2 = 0 := of_decide_eq_false hz.symm
        have h2 := (eu_ok a0 b0 n).2.1
        have e1 : eu (i.1.natAbs : Int) i.2 (n + 1) = ((eu (i.1.natAbs : Int) i.2 n).2, (eu (i.1.natAbs : Int) i.2 n).1 % (eu (i.1.natAbs : Int) i.2 n).2) := by rw [eu, if_neg hz]
        refine Sj.go ?_ rfl
        refine Sj.par 2 3 rfl sc_llow.nd (As.cons (Ev.v 3 rfl) (As.cons (Ev.mod (intI T.f_int (Ev.v 2 rfl)) (Ev.v 3 rfl) (by omega)) As.nil)) ?_
        refine Sj.at ?_ (Wc.refl _)
        show Ws _ [_, _, some (tyI (eu (i.1.natAbs : Int) i.2 (n + 1)).1), some (tyI (eu (i.1.natAbs : Int) i.2 (n + 1)).2), none]
        rw [e1]
        exact .k (.k (.k (.k (.d .n))))
    · refine fun σ C H S => hl σ C H (S.ws ?_ (Wc.refl _))
      have hz : (eu (i.1.natAbs : Int) i.2 (List.range N.toNat).length).2 = 0 := by
        rw [List.length_range, show N.toNat = 2 * (Builtin.Int.intBits i.2 + 1) by omega]
        exact eu_end a0 b0 (Int.lt_trans hbl (by rw [Int.pow_succ]; have := hbl; omega))
      rw [gz _ hz]
      exact .k (.k (.k (.d (.d .n)))))
end
end MF
set_option maxHeartbeats 4000000
/-! the law's defs: is_share, add, pair_of. -/
namespace MF
open PySem PySem.Spec L2 MT MJ
open PyProof.Rows hiding St
section
variable {P : Program} {w : World} {K : PySem.W.Frag} {mg : Str → Option Value} {base : Heap}
abbrev tyQ (q : Rat) : Ty := tyTup [tyI q.num, tyI (q.den : Int)]
theorem sc_ladd : FnScope ["_law_one", "_law_other"] ["_law_one", "_law_other"] (defScope s_l_add) := ⟨rfl, rfl, rfl, by decide +kernel, rfl, by decide +kernel, by decide +kernel⟩
/-- a sum of pairs, either of which may stand unshortened -/
structure AdPre (i : (Int × Int) × (Int × Int)) : Prop where
  p1 : 0 < i.1.2
  p2 : 0 < i.2.2
  l1 : Lb 4000 i.1.1
  l2 : Lb 4000 i.1.2
  l3 : Lb 4000 i.2.1
  l4 : Lb 4000 i.2.2
theorem f_ladd (T : Tx K mg) : C8.Cal P w K mg base 2 "_law_add" (spP AdPre (fun i => [tyTup [tyI i.1.1, tyI i.1.2], tyTup [tyI i.2.1, tyI i.2.2]]) (fun i => tyQ (rq i.1.1 i.1.2 + rq i.2.1 i.2.2))) [] :=
  mkCal T.g_law_add T.d_l_add sc_ladd (fun _ _ _ _ _ _ us hl => match us, hl with | [_, _], _ => rfl) (lenP fun _ => rfl) (bodyP fun cdv A outer s H E hr i B D hp fin _ => by
    obtain ⟨⟨a, b⟩, c, d⟩ := i
    obtain ⟨p1, p2, l1, l2, l3, l4⟩ := hp
    have e : rq a b + rq c d = rq (a * d + c * b) (b * d) := by
      unfold rq
      rw [Rat.divInt_add_divInt _ _ (by show b ≠ 0; have : 0 < b := p1; omega) (by show d ≠ 0; have : 0 < d := p2; omega)]
    refine Sj.ret (Ev.call (f_llow T) hr (by decide) (a * d + c * b, b * d) ⟨Int.mul_pos p1 p2, lb_mul l2 l4⟩ (As.cons (Ev.add
      (Ev.mul (ixt (Lv.core (Ev.v 0 rfl)) Ev.int rfl) (ixt (Lv.core (Ev.v 1 rfl)) Ev.int rfl) (sm_mul l1 l4)) (Ev.mul (ixt (Lv.core (Ev.v 1 rfl)) Ev.int rfl) (ixt (Lv.core (Ev.v 0 rfl)) Ev.int rfl) (sm_mul l3 l2)))
      (As.cons (Ev.mul (ixt (Lv.core (Ev.v 0 rfl)) Ev.int rfl) (ixt (Lv.core (Ev.v 1 rfl)) Ev.int rfl) (sm_mul l2 l4)) As.nil))) fin (fun v C h => ?_) .n
    show (tyQ (rq a b + rq c d)).r v C
    rw [e]; exact h)
theorem sc_lish : FnScope ["_law_told", "_law_over", "_law_under", "_law_due"] ["_law_told", "_law_over", "_law_under"] (defScope s_l_is_share) := ⟨rfl, rfl, rfl, by decide +kernel, rfl, by decide +kernel, by decide +kernel⟩
theorem Ev.isSh {X : Cx} {B : Bs} {Γ : Gm} {W : Wl} {a : Expr} {p p2 pos : Pos} {q : Rat} (T : Tx X.K X.mg) (h : Ev X B Γ W a (tySh (CShare X.K) q)) (hg : Gl X "isinstance" := by rfl) (hg2 : Gl X "Share" := by rfl) (he : starEach [a, .Name "Share" p2] X.env = (false, eval a X.env) :: starEach [.Name "Share" p2] X.env := by rfl) (he2 : starEach [.Name "Share" p2] X.env = (false, eval (.Name "Share" p2) X.env) :: starEach [] X.env := by rfl)
    (hpl : (backTo pos (starEach [.Name "Share" p2] X.env)).any (·.1) = false := by rfl) : Ev X B Γ W (.Call (.Name "isinstance" p) [a, .Name "Share" p2] [] pos) (tyB true) :=
  isC T.f_isinstance h (Ev.glob T.gShare rfl hg2) (iShare T) hg he he2 hpl
theorem f_lish (T : Tx K mg) : C8.Cal P w K mg base 2 "_law_is_share" (spP (fun i : Rat × Int × Int => 0 < i.2.2 ∧ Lb 8000 i.2.2) (fun i => [tySh (CShare K) i.1, tyI i.2.1, tyI i.2.2]) (fun i => tyB (decide (i.1 = rq i.2.1 i.2.2)))) [] :=
  mkCal T.g_law_is_share T.d_l_is_share sc_lish (fun _ _ _ _ _ _ us hl => match us, hl with | [_, _, _], _ => rfl) (lenP fun _ => rfl) (bodyP fun cdv A outer s H E hr i B D hp fin _ => by
    obtain ⟨q, a, b⟩ := i
    refine Sj.never (Tv.is (Tv.w (Wv.or (Tv.notD (Tv.val (Ev.isSh T (Ev.v 0 rfl)))) fun _ => Wv.or (Tv.notD (Tv.val (Ev.call (f_liw T) hr (by decide) q.num trivial (As.cons (Ev.over T (Ev.v 0 rfl)) As.nil)))) fun _ => Wv.or1 (Tv.notD (Tv.val (Ev.call (f_liw T) hr (by decide) (q.den : Int) trivial (As.cons (Ev.under T (Ev.v 0 rfl)) As.nil)))))) rfl) ?_
    refine Sj.set 3 sc_lish.nd (Ev.call (f_llow T) hr (by decide) (a, b) hp (As.cons (Ev.v 1 rfl) (As.cons (Ev.v 2 rfl) As.nil))) ?_
    refine Sj.ret (Ev.andB (Ev.eqI (Ev.over T (Ev.v 0 rfl)) (ixt (Lv.core (Ev.v 3 rfl)) Ev.int rfl)) fun _ => Ev.oneB (Ev.eqI (Ev.under T (Ev.v 0 rfl)) (ixt (Lv.core (Ev.v 3 rfl)) Ev.int rfl))) fin (fun v C h => ?_) .n
    rw [← Bool.decide_and] at h
    have e : (q.num = (rq a b).num ∧ (q.den : Int) = ((rq a b).den : Int)) ↔ q = rq a b := ⟨fun ⟨h1, h2⟩ => Rat.ext h1 (by exact_mod_cast h2), fun h => by rw [h]; exact ⟨rfl, rfl⟩⟩
    rw [decide_eq_decide.mpr e] at h
    exact h)
theorem sc_lpo : FnScope ["_law_told"] ["_law_told"] (defScope s_l_pair_of) := ⟨rfl, rfl, rfl, by decide +kernel, rfl, by decide +kernel, by decide +kernel⟩
theorem f_lpo (T : Tx K mg) : C8.Cal P w K mg base 2 "_law_pair_of" (spP (fun _ : Rat => True) (fun q => [tySh (CShare K) q]) (fun q => tyQ q)) [] :=
  mkCal T.g_law_pair_of T.d_l_pair_of sc_lpo (fun _ _ _ _ _ _ us hl => match us, hl with | [_], _ => rfl) (lenP fun _ => rfl) (bodyP fun cdv A outer s H E hr q B D _ fin _ => by
    have hq := den_pos q
    refine Sj.never (Tv.is (Tv.w (Wv.or (Tv.notD (Tv.val (Ev.isSh T (Ev.v 0 rfl)))) fun _ => Wv.or (Tv.notD (Tv.val (Ev.call (f_liw T) hr (by decide) q.num trivial (As.cons (Ev.over T (Ev.v 0 rfl)) As.nil)))) fun _ => Wv.or (Tv.notD (Tv.val (Ev.call (f_liw T) hr (by decide) (q.den : Int) trivial (As.cons (Ev.under T (Ev.v 0 rfl)) As.nil)))) fun _ => Wv.or1 (Tv.lt (Ev.under T (Ev.v 0 rfl)) Ev.int))) ?_) ?_
    · rw [decide_eq_false (by omega)]; rfl
    · exact Sj.ret (Ev.tup (As.cons (Ev.over T (Ev.v 0 rfl)) (As.cons (Ev.under T (Ev.v 0 rfl)) As.nil))) fin (fun v C h => h) .n)
end
end MF
set_option maxHeartbeats 4000000
/-! the law's defs: pairs. -/
namespace MF
open PySem PySem.Spec L2 MT MJ
open PyProof.Rows hiding St
section
variable {P : Program} {w : World} {K : PySem.W.Frag} {mg : Str → Option Value} {base : Heap}
theorem Ev.isTup {X : Cx} {B : Bs} {Γ : Gm} {W : Wl} {a : Expr} {p p2 pos : Pos} {Ts : List Ty} (T : Tx X.K X.mg) (h : Ev X B Γ W a (tyTup Ts)) (hg : Gl X "isinstance" := by rfl) (hg2 : Gl X "tuple" := by rfl) (he : starEach [a, .Name "tuple" p2] X.env = (false, eval a X.env) :: starEach [.Name "tuple" p2] X.env := by rfl) (he2 : starEach [.Name "tuple" p2] X.env = (false, eval (.Name "tuple" p2) X.env) :: starEach [] X.env := by rfl)
    (hpl : (backTo pos (starEach [.Name "tuple" p2] X.env)).any (·.1) = false := by rfl) : Ev X B Γ W (.Call (.Name "isinstance" p) [a, .Name "tuple" p2] [] pos) (tyB true) :=
  isT (t := "tuple") (T := "tuple") T.f_isinstance h (fun v C H E r => ty_tup E r) (Ev.bltn T.f_tuple (by decide +kernel) rfl hg2) (by decide +kernel) hg he he2 hpl
theorem Ev.isStr {X : Cx} {B : Bs} {Γ : Gm} {W : Wl} {a : Expr} {p p2 pos : Pos} {x : Str} (T : Tx X.K X.mg) (h : Ev X B Γ W a (tyS x)) (hg : Gl X "isinstance" := by rfl) (hg2 : Gl X "str" := by rfl) (he : starEach [a, .Name "str" p2] X.env = (false, eval a X.env) :: starEach [.Name "str" p2] X.env := by rfl) (he2 : starEach [.Name "str" p2] X.env = (false, eval (.Name "str" p2) X.env) :: starEach [] X.env := by rfl)
    (hpl : (backTo pos (starEach [.Name "str" p2] X.env)).any (·.1) = false := by rfl) : Ev X B Γ W (.Call (.Name "isinstance" p) [a, .Name "str" p2] [] pos) (tyB true) :=
  isT (t := "str") (T := "str") T.f_isinstance h (fun v C H E r => ty_str E r) (Ev.bltn T.f_str (by decide +kernel) rfl hg2) (by decide +kernel) hg he he2 hpl
theorem q_ref {q : Rat} (v : V) (C : Hp) (h : (tyQ q).r v C) : decide (v = .non) = false := by
  obtain ⟨p, o, rfl, _⟩ := h; rfl
abbrev tyPr (K : PySem.W.Frag) (r : Str × Rat) : Ty := tyTup [tyS r.1, tySh (CShare K) r.2]
theorem sc_lprs : FnScope ["_law_told", "_law_texts", "_law_shares", "_law_place", "_law_pair"] ["_law_told", "_law_texts"] (defScope s_l_pairs) := ⟨rfl, rfl, rfl, by decide +kernel, rfl, by decide +kernel, by decide +kernel⟩
theorem f_lprs (T : Tx K mg) : C8.Cal P w K mg base 3 "_law_pairs" (spP (fun m : List (Str × Rat) => (m.map (·.1)).Nodup ∧ m.length ≤ 1000) (fun m => [tyTup (m.map (tyPr K)), tyLst (m.map fun r : Str × Rat => tyS r.1)]) (fun m => tyD (vmap tyQ m))) [] :=
  mkCal T.g_law_pairs T.d_l_pairs sc_lprs (fun _ _ _ _ _ _ us hl => match us, hl with | [_, _], _ => rfl) (lenP fun _ => rfl) (bodyP fun cdv A outer s H E hr m B D hp fin _ => by
    obtain ⟨nd, hl⟩ := hp
    have hu := hu_of hr
    refine Sj.never (Tv.is (Tv.w (Wv.or (Tv.notD (Tv.val (Ev.isTup T (Ev.v 0 rfl)))) fun _ => Wv.or1 (Tv.neI (lenT T.f_len (Lv.core (Ev.v 0 rfl))) (lenL T.f_len (Lv.core (Ev.v 1 rfl)))))) ?_) ?_
    · rw [List.length_map, List.length_map, decide_eq_true rfl]; rfl
    refine Sj.newD 2 sc_lprs.nd fun q => ?_
    refine Sj.for_ rfl PassesOwn.never (Iv.range T.f_range (lenL T.f_len (Lv.core (Ev.v 1 rfl))) (by rw [List.length_map]; omega) (by omega)) (fun x => gName 3 sc_lprs.nd)
      (fun n => [some (tyTup (m.map (tyPr K))), some (tyLst (m.map fun r : Str × Rat => tyS r.1)), some (tyP q), none, none]) (fun n => [(q, cD (vmap tyQ (m.take n)))]) (.k (.k (.k (.d (.d .n))))) (Wc.refl _) (fun B' _ _ _ n z hn => ?_) ?_
    · have hz : z = n ∧ n < m.length := by
        have hl2 := (List.getElem?_eq_some_iff.mp hn).1
        rw [List.length_range, List.length_map] at hl2
        have hl2 : n < m.length := by omega
        rw [List.getElem?_range (by rw [List.length_map]; omega)] at hn
        exact ⟨(Option.some.inj hn).symm, hl2⟩
      obtain ⟨rfl, hlt⟩ := hz
      have hx : m[z]? = some m[z] := List.getElem?_eq_getElem hlt
      generalize m[z] = r at hx
      have ht : m.take (z + 1) = m.take z ++ [r] := by rw [List.take_succ, hx]; rfl
      have hnew : r.1 ∉ (vmap tyQ (m.take z)).map (·.1) := fun h => by
        rw [vmap_keys] at h
        have nd := nd
        rw [← List.take_append_drop (z + 1) m, ht, List.map_append, List.map_append] at nd
        exact (List.nodup_append.mp (List.nodup_append.mp nd).1).2.2 _ h r.1 (by simp) rfl
      have a1 : atI (m.map (tyPr K)) (z : Int) = some (tyPr K r) := ati_nat (by rw [List.getElem?_map, hx]; rfl)
      have a2 : atI (m.map fun r : Str × Rat => tyS r.1) (z : Int) = some (tyS r.1) := ati_nat (by rw [List.getElem?_map, hx]; rfl)
      refine Sj.set 4 sc_lprs.nd (ixt (Lv.core (Ev.v 0 rfl)) (Ev.v 3 rfl) a1) ?_
      refine Sj.never (Tv.is (Tv.w (Wv.or (Tv.notD (Tv.val (Ev.isTup T (Ev.v 4 rfl)))) fun _ => Wv.or (Tv.neI (lenT T.f_len (Lv.core (Ev.v 4 rfl))) Ev.int) fun _ => Wv.or1 (Tv.notD (Tv.val (Ev.isStr T (ixt (Lv.core (Ev.v 4 rfl)) Ev.int rfl)))))) rfl) ?_
      refine Sj.never (Tv.is (Tv.w (Wv.or (Tv.neS (ixt (Lv.core (Ev.v 4 rfl)) Ev.int rfl) (ixl (Lv.core (Ev.v 1 rfl)) (Ev.v 3 rfl) a2)) fun _ => Wv.or1 (Tv.isN (Ev.call (f_lpo T) hr (by decide) r.2 trivial (As.cons (ixt (Lv.core (Ev.v 4 rfl)) Ev.int rfl) As.nil)) (bb := false) q_ref))) ?_) ?_
      · rw [decide_eq_true rfl]; rfl
      refine Sj.dput 0 hu (Ev.call (f_lpo T) hr (by decide) r.2 trivial (As.cons (ixt (Lv.core (Ev.v 4 rfl)) Ev.int rfl) As.nil)) (Ev.v 2 rfl) rfl (ixl (Lv.core (Ev.v 1 rfl)) (Ev.v 3 rfl) a2) ?_ ?_
      · show (vmap tyQ (m.take z)).length < sizeLine
        unfold vmap
        rw [List.length_map, List.length_take]
        exact small1000 (by omega)
      · refine Sj.at (.k (.k (.k (.d (.d .n))))) ?_
        rw [ht, dput_new hnew, show vmap tyQ (m.take z ++ [r]) = vmap tyQ (m.take z) ++ [(r.1, tyQ r.2)] by unfold vmap; rw [List.map_append]; rfl]
        exact Wc.refl _
    · rw [List.length_range, List.length_map, show ((m.length : Int)).toNat = m.length by omega, List.take_length]
      refine Sj.freeze 0 2 rfl rfl ?_
      exact Sj.ret (Ev.v 2 rfl) fin (fun v C h => h) .n)
end
end MF
set_option maxHeartbeats 4000000
/-! the law's defs: weights, found, most, blind. -/
namespace MF
open PySem PySem.Spec L2 MT MJ
open PyProof.Rows hiding St
section
variable {P : Program} {w : World} {K : PySem.W.Frag} {mg : Str → Option Value} {base : Heap}
/-- an entry of the law: the accused as a list (b) or as a tuple -/
abbrev tySq (b : Bool) (xs : List Str) : Ty := if b then tyLst (xs.map tyS) else tyTup (xs.map tyS)
abbrev enLw (b : Bool) (e : En) : Ty := tyTup [tyI e.1, tyS e.2.1, tySq b e.2.2]
abbrev tyEns (b : Bool) (es : List En) : Ty := tyLst (es.map (enLw b))
theorem TinSq {X : Cx} {B : Bs} {Γ : Gm} {W : Wl} {a c : Expr} {pos : Pos} {z : Str} {b : Bool} {l : List Str} (ha : Ev X B Γ W a (tyS z)) (hb : Ev X B Γ W c (tySq b l)) (hm : behindInMarks .In c = false := by with_unfolding_all rfl) : Tv X B Γ W (.Compare a [.In] [c] pos) (· = decide (z ∈ l)) := by
  cases b
  · exact TinT ha hb hm
  · exact TinL ha (Lv.core hb) hm
theorem TnotSq {X : Cx} {B : Bs} {Γ : Gm} {W : Wl} {a c : Expr} {pos : Pos} {z : Str} {b : Bool} {l : List Str} (ha : Ev X B Γ W a (tyS z)) (hb : Ev X B Γ W c (tySq b l)) (hm : behindInMarks .NotIn c = false := by with_unfolding_all rfl) : Tv X B Γ W (.Compare a [.NotIn] [c] pos) (· = !decide (z ∈ l)) := by
  cases b
  · exact TnotT ha hb hm
  · exact TnotL ha (Lv.core hb) hm
theorem sc_lwts : FnScope ["_law_entries_here", "_law_weights_here", "_law_weight", "_law_text_here", "_law_accused"] ["_law_entries_here"] (defScope s_l_weights) := ⟨rfl, rfl, rfl, by decide +kernel, rfl, by decide +kernel, by decide +kernel⟩
theorem f_lwts (T : Tx K mg) : C8.Cal P w K mg base 1 "_law_weights" (spP (fun es : List En => es.length ≤ 64 ∧ ∀ e ∈ es, 1 ≤ e.1) (fun es => [tyEns true es]) (fun es => tyD (vmap tyI (wtF es)))) [] :=
  mkCal T.g_law_weights T.d_l_weights sc_lwts (fun _ _ _ _ _ _ us hl => match us, hl with | [_], _ => rfl) (lenP fun _ => rfl) (bodyP fun cdv A outer s H E hr es B D hp fin _ => by
    have hu := hu_of hr
    refine Sj.newD 1 sc_lwts.nd fun q => ?_
    refine Sj.for_ (xs := es) (Rx := enLw true) rfl PassesOwn.never (Iv.list (Ev.v 0 rfl)) (fun x => gLt rfl (gLc (gName 2 sc_lwts.nd) (gLc (gName 3 sc_lwts.nd) (gLc (gName 4 sc_lwts.nd) gL0))))
      (fun n => [some (tyEns true es), some (tyP q), none, none, none]) (fun n => [(q, cD (vmap tyI (wtF (es.take n))))]) (.k (.k (.d (.d (.d .n))))) (Wc.refl _) (fun B' _ _ _ n e hn => ?_) ?_
    · have ho := wt_ok (es := es.take n) fun e he => hp.2 e (List.mem_of_mem_take he)
      refine Sj.dput 0 hu (Ev.add (dget2E (Lv.own 0 (Ev.v 1 rfl) rfl) (Ev.v 3 rfl) Ev.int (fun U h => by rw [← h]; exact tbW_ty _ _) hu ⟨rfl, rfl, rfl, rfl⟩) (Ev.v 2 rfl)) (Ev.v 1 rfl) rfl (Ev.v 3 rfl) ?_ (Sj.at (.k (.k (.d (.d (.d .n))))) ?_)
      · have h1 := ho.len
        rw [List.length_take] at h1
        show (vmap tyI _).length < sizeLine
        unfold vmap
        rw [List.length_map]
        have := hp.1
        exact small1000 (by omega)
      · have e1 : wtF (es.take (n + 1)) = wt1 (wtF (es.take n)) e := foldl_take wt1 [] hn
        rw [e1]
        show Wc _ [(q, cD (vmap tyI (dput (wtF (es.take n)) e.2.1 (tbW (wtF (es.take n)) e.2.1 + e.1))))]
        rw [← dput_vmap]
        exact Wc.refl _
    · rw [List.take_length]
      exact Sj.freeze 0 1 rfl rfl (Sj.ret (Ev.v 1 rfl) fin (fun v C h => h) .n))
/-! the most accused -/
def awS (es : List En) (o : Str) : Int := ((es.filter fun e => decide (o ∈ e.2.2)).map (·.1)).sum
def lm1 (es : List En) (m : Int) (o : Str) : Int := max m (awS es o)
def lmF (os : List Str) (es : List En) : Int := os.foldl (lm1 es) 0
theorem sc_lmost : FnScope ["_law_entries_here", "_law_others", "_law_most_here", "_law_other", "_law_entry"] ["_law_entries_here", "_law_others"] (defScope s_l_most) := ⟨rfl, rfl, rfl, by decide +kernel, rfl, by decide +kernel, by decide +kernel⟩
theorem f_lmost (T : Tx K mg) : C8.Cal P w K mg base 1 "_law_most" (spP (fun i : List En × List Str => i.1.length ≤ 64) (fun i => [tyEns true i.1, tyLst (i.2.map tyS)]) (fun i => tyI (lmF i.2 i.1))) [] :=
  mkCal T.g_law_most T.d_l_most sc_lmost (fun _ _ _ _ _ _ us hl => match us, hl with | [_, _], _ => rfl) (lenP fun _ => rfl) (bodyP fun cdv A outer s H E hr i B D hp fin _ => by
    obtain ⟨es, os⟩ := i
    have hp : es.length ≤ 64 := hp
    refine Sj.set 2 sc_lmost.nd Ev.int ?_
    refine Sj.for_ (xs := os) (Rx := tyS) rfl PassesOwn.never (Iv.list (Ev.v 1 rfl)) (fun x => gName 3 sc_lmost.nd)
      (fun n => [some (tyEns true es), some (tyLst (os.map tyS)), some (tyI ((os.take n).foldl (lm1 es) 0)), none, none]) (fun n => []) (.k (.k (.k (.d (.d .n))))) (Wc.refl _) (fun B' _ _ _ n o hn => ?_) ?_
    · refine Sj.set 2 sc_lmost.nd (max2 rfl T.f_max (Ev.v 2 rfl) (sumL (xs := es.filter fun e => decide (o ∈ e.2.2)) (g := fun e => e.1) rfl T.f_sum (Ev.lcF (xs := es) (Rx := enLw true) (Ro := fun e => tyI e.1) (pr := fun e => decide (o ∈ e.2.2)) [("_law_entry", 4)] rfl sc_lmost.nd (Iv.list (Ev.v 0 rfl)) (blkOk_by (N := ["_law_entries_here", "_law_others", "_law_most_here", "_law_other", "_law_entry"]) (sc := defScope s_l_most) (by decide +kernel))
        (fun x s0 H0 Cc cl fp => gName 4 sc_lmost.nd) (by decide) (small1000 (by omega)) (fun e he s0 H0 Cc cl fp D K => Qv.one (TinSq (b := true) (Ev.v 3 rfl) (ixt (Lv.core (Ev.v 4 rfl)) Ev.int rfl))) (fun e he _ s0 H0 Cc cl fp D K => ixt (Lv.core (Ev.v 4 rfl)) Ev.int rfl)))) ?_
      refine Sj.at ?_ (Wc.refl _)
      rw [foldl_take (lm1 es) 0 hn]
      exact .k (.k (.k (.d (.d .n))))
    · rw [List.take_length]
      exact Sj.ret (Ev.v 2 rfl) fin (fun v C h => h) .n)
end
end MF
set_option maxHeartbeats 4000000
/-! the law's defs: found, blind. -/
namespace MF
open PySem PySem.Spec L2 MT MJ
open PyProof.Rows hiding St
section
variable {P : Program} {w : World} {K : PySem.W.Frag} {mg : Str → Option Value} {base : Heap}
abbrev tyLs (l : List Str) : Ty := tyLst (l.map tyS)
abbrev tyRd (ch : Chs) : Ty := tyD (vmap tyLs ch)
/-- the law's found: all that may be read is accused -/
def lkP (ch : Chs) (e : En) : Bool := decide (((chG ch e.2.1).filter fun o => !decide (o ∈ e.2.2)).length = 0)
def lk1 (ch : Chs) (n : Int) (e : En) : Int := if lkP ch e then n + e.1 else n
def lkF (ch : Chs) (es : List En) : Int := es.foldl (lk1 ch) 0
theorem sc_lfd : FnScope ["_law_entries_here", "_law_readable", "_law_total", "_law_weight", "_law_text_here", "_law_accused", "_law_lacking", "_law_other"] ["_law_entries_here", "_law_readable"] (defScope s_l_found) := ⟨rfl, rfl, rfl, by decide +kernel, rfl, by decide +kernel, by decide +kernel⟩
theorem rd_get {ch : Chs} {t : Str} (h : t ∈ ch.map (·.1)) : dget (vmap tyLs ch) t = some (tyLs (chG ch t)) := by rw [dget_vmap, chG_of h]; rfl
structure LwIn (i : Bool × List En × Chs) : Prop where
  el : i.2.1.length ≤ 64
  ke : ∀ e ∈ i.2.1, e.2.1 ∈ i.2.2.map (·.1)
  cl : ∀ t, (chG i.2.2 t).length ≤ 64
  kl : i.2.2.length ≤ 64
  nd : (i.2.2.map (·.1)).Nodup
theorem f_lfd (T : Tx K mg) : C8.Cal P w K mg base 1 "_law_found" (spP LwIn (fun i => [tyEns i.1 i.2.1, tyRd i.2.2]) (fun i => tyI (lkF i.2.2 i.2.1))) [] :=
  mkCal T.g_law_found T.d_l_found sc_lfd (fun _ _ _ _ _ _ us hl => match us, hl with | [_, _], _ => rfl) (lenP fun _ => rfl) (bodyP fun cdv A outer s H E hr i B D hp fin _ => by
    obtain ⟨b, es, ch⟩ := i
    have hu := hu_of hr
    refine Sj.set 2 sc_lfd.nd Ev.int ?_
    refine Sj.for_ (xs := es) (Rx := enLw b) rfl PassesOwn.never (Iv.list (Ev.v 0 rfl)) (fun x => gLt rfl (gLc (gName 3 sc_lfd.nd) (gLc (gName 4 sc_lfd.nd) (gLc (gName 5 sc_lfd.nd) gL0))))
      (fun n => [some (tyEns b es), some (tyRd ch), some (tyI ((es.take n).foldl (lk1 ch) 0)), none, none, none, none, none]) (fun n => []) (.k (.k (.k (.d (.d (.d (.d (.d .n)))))))) (Wc.refl _) (fun B' _ _ _ n e hn => ?_) ?_
    · have hk := hp.ke e (List.mem_of_getElem? hn)
      have hc := hp.cl e.2.1
      rw [foldl_take (lk1 ch) 0 hn]
      refine Sj.setLcF (xs := chG ch e.2.1) (Rx := tyS) (Ro := tyS) (pr := fun o => !decide (o ∈ e.2.2)) 6 [("_law_other", 7)] rfl sc_lfd.nd (Iv.list (dgetE (Lv.core (Ev.v 1 rfl)) (Ev.v 4 rfl) (rd_get hk) hu)) (blkOk_by (N := ["_law_entries_here", "_law_readable", "_law_total", "_law_weight", "_law_text_here", "_law_accused", "_law_lacking", "_law_other"]) (sc := defScope s_l_found) (by decide +kernel))
        (fun x s0 H0 Cc cl fp => gName 7 sc_lfd.nd) (by decide) (small1000 (by show (chG ch e.2.1).length ≤ 1000; exact Nat.le_trans hc (by decide))) (fun o ho s0 H0 Cc cl fp D K => Qv.one (TnotSq (b := b) (Ev.v 7 rfl) (Ev.v 5 rfl))) (fun o ho _ s0 H0 Cc cl fp D K => Ev.v 7 rfl) ?_
      refine Sj.if_ (Tv.eqI (lenL T.f_len (Lv.core (Ev.v 6 rfl))) Ev.int) (fun hz => ?_) (fun hz => ?_)
      · have hz : lkP ch e = true := by
          have := of_decide_eq_true hz.symm
          rw [List.length_map] at this
          exact decide_eq_true (by omega)
        rw [show lk1 ch ((es.take n).foldl (lk1 ch) 0) e = (es.take n).foldl (lk1 ch) 0 + e.1 by unfold lk1; rw [if_pos hz]]
        exact Sj.set 2 sc_lfd.nd (Ev.add (Ev.v 2 rfl) (Ev.v 3 rfl)) (Sj.go (Sj.at (.k (.k (.k (.d (.d (.d (.d (.d .n)))))))) (Wc.refl _)) rfl)
      · have hz : lkP ch e = false := by
          have := of_decide_eq_false hz.symm
          rw [List.length_map] at this
          exact decide_eq_false (by omega)
        rw [show lk1 ch ((es.take n).foldl (lk1 ch) 0) e = (es.take n).foldl (lk1 ch) 0 by unfold lk1; rw [hz]; rfl]
        exact Sj.go (Sj.at (.k (.k (.k (.d (.d (.d (.d (.d .n)))))))) (Wc.refl _)) rfl
    · rw [List.take_length]
      exact Sj.ret (Ev.v 2 rfl) fin (fun v C h => h) .n)
end
end MF
set_option maxHeartbeats 4000000
/-! the law's defs: blind. -/
namespace MF
open PySem PySem.Spec L2 MT MJ
open PyProof.Rows hiding St
section
variable {P : Program} {w : World} {K : PySem.W.Frag} {mg : Str → Option Value} {base : Heap}
def awT (es : List En) (t o : Str) : Int := ((es.filter fun e => decide (e.2.1 = t) && decide (o ∈ e.2.2)).map (·.1)).sum
def lb1 (es : List En) (t : Str) (m : Int) (o : Str) : Int := if (decide (m = -1) || decide (awT es t o < m)) = true then awT es t o else m
def lbT (ch : Chs) (es : List En) (t : Str) : Int := (chG ch t).foldl (lb1 es t) (-1)
def lb2 (ch : Chs) (es : List En) (n : Int) (r : Str × List Str) : Int := n + lbT ch es r.1
def lbF (ch : Chs) (es : List En) : Int := ch.foldl (lb2 ch es) 0
abbrev NBl : List Str := ["_law_entries_here", "_law_readable", "_law_total", "_law_text_here", "_law_least", "_law_other", "_law_met", "_law_entry"]
theorem sc_lbl : FnScope NBl ["_law_entries_here", "_law_readable"] (defScope s_l_blind) := ⟨rfl, rfl, rfl, by decide +kernel, rfl, by decide +kernel, by decide +kernel⟩
theorem f_lbl (T : Tx K mg) : C8.Cal P w K mg base 1 "_law_blind" (spP LwIn (fun i => [tyEns i.1 i.2.1, tyRd i.2.2]) (fun i => tyI (lbF i.2.2 i.2.1))) [] :=
  mkCal T.g_law_blind T.d_l_blind sc_lbl (fun _ _ _ _ _ _ us hl => match us, hl with | [_, _], _ => rfl) (lenP fun _ => rfl) (bodyP fun cdv A outer s H E hr i B D hp fin _ => by
    obtain ⟨b, es, ch⟩ := i
    have hu := hu_of hr
    have hel : es.length ≤ 64 := hp.el
    refine Sj.set 2 sc_lbl.nd Ev.int ?_
    refine Sj.forD (fs := vmap tyLs ch) (xs := ch) (Rx := fun p => tyS p.1) rfl PassesOwn.never (fun d => [some (tyEns b es), some (tyP d), none, none, none, none, none, none]) (fun σ C sl => ?_) (fun B' d ob ks hg hk => ?_) (fun x => gName 3 sc_lbl.nd)
      (fun n => [some (tyEns b es), some (tyRd ch), some (tyI ((ch.take n).foldl (lb2 ch es) 0)), none, none, none, none, none]) (fun n => []) (.k (.k (.k (.d (.d (.d (.d (.d .n)))))))) .n (fun B' D' hfin Bk n p hn => ?_) ?_
    · obtain ⟨d, ks, h1, h2, h3⟩ := slot_dict sl (i := 1) rfl
      exact ⟨d, ks, h1, h2, h3.ws (.k (.k (.d (.d (.d (.d (.d (.d .n))))))))⟩
    · have e : (ch.map fun p => tyS p.1) = (vmap tyLs ch).map fun q => tyS q.1 := by unfold vmap; rw [List.map_map]; rfl
      rw [e]
      exact Iv.keys (Ev.v 1 rfl) hg hk
    · have hk : p.1 ∈ ch.map (·.1) := List.mem_map.mpr ⟨p, List.mem_of_getElem? hn, rfl⟩
      rw [foldl_take (lb2 ch es) 0 hn]
      refine Sj.set 4 sc_lbl.nd (Ev.neg Ev.int) ?_
      refine Sj.for_ (xs := chG ch p.1) (Rx := tyS) rfl PassesOwn.never (Iv.list (dgetE (Lv.core (Ev.v 1 rfl)) (Ev.v 3 rfl) (rd_get hk) hu)) (fun x => gName 5 sc_lbl.nd)
        (fun m => [some (tyEns b es), some (tyRd ch), some (tyI ((ch.take n).foldl (lb2 ch es) 0)), some (tyS p.1), some (tyI (((chG ch p.1).take m).foldl (lb1 es p.1) (-1))), none, none, none]) (fun n => []) (.k (.k (.k (.k (.k (.d (.d (.d .n)))))))) .n (fun B2 _ _ _ m o hm => ?_) ?_
      · rw [foldl_take (lb1 es p.1) (-1) hm]
        generalize ((chG ch p.1).take m).foldl (lb1 es p.1) (-1) = z
        refine Sj.set 6 sc_lbl.nd (sumL (xs := es.filter fun e => decide (e.2.1 = p.1) && decide (o ∈ e.2.2)) (g := fun e => e.1) rfl T.f_sum (Ev.lcF (xs := es) (Rx := enLw b) (Ro := fun e => tyI e.1) (pr := fun e => decide (e.2.1 = p.1) && decide (o ∈ e.2.2)) [("_law_entry", 7)] rfl sc_lbl.nd (Iv.list (Ev.v 0 rfl)) (blkOk_by (N := NBl) (sc := defScope s_l_blind) (by decide +kernel))
          (fun x s0 H0 Cc cl fp => gName 7 sc_lbl.nd) (by decide) (small1000 (by omega)) (fun e he s0 H0 Cc cl fp D K => Qv.one (Tv.w (Wv.and (Tv.eqS (ixt (Lv.core (Ev.v 7 rfl)) Ev.int rfl) (Ev.v 3 rfl)) fun _ => Wv.and1 (TinSq (b := b) (Ev.v 5 rfl) (ixt (Lv.core (Ev.v 7 rfl)) Ev.int rfl))))) (fun e he _ s0 H0 Cc cl fp D K => ixt (Lv.core (Ev.v 7 rfl)) Ev.int rfl))) ?_
        refine Sj.if_ (Tv.w (Wv.or (Tv.eqI (Ev.v 4 rfl) (Ev.neg Ev.int)) fun _ => Wv.or1 (Tv.lt (Ev.v 6 rfl) (Ev.v 4 rfl)))) (fun hz => ?_) (fun hz => ?_)
        · rw [show lb1 es p.1 z o = awT es p.1 o by unfold lb1; exact if_pos hz.symm]
          exact Sj.set 4 sc_lbl.nd (Ev.v 6 rfl) (Sj.go (Sj.at (.k (.k (.k (.k (.k (.d (.d (.d .n)))))))) (Wc.refl _)) rfl)
        · rw [show lb1 es p.1 z o = z by unfold lb1; exact if_neg (by intro h; exact Bool.noConfusion (hz.trans h))]
          exact Sj.go (Sj.at (.k (.k (.k (.k (.k (.d (.d (.d .n)))))))) (Wc.refl _)) rfl
      · rw [List.take_length]
        exact Sj.set 2 sc_lbl.nd (Ev.add (Ev.v 2 rfl) (Ev.v 4 rfl)) (Sj.at (.k (.k (.k (.d (.d (.d (.d (.d .n)))))))) .n)
    rw [List.take_length]
    exact Sj.ret (Ev.v 2 rfl) fin (fun v C h => h) .n)
end
end MF
set_option maxHeartbeats 4000000
/-! the law's defs: draw. -/
namespace MF
open PySem PySem.Spec L2 MT MJ
open PyProof.Rows hiding St
section
variable {P : Program} {w : World} {K : PySem.W.Frag} {mg : Str → Option Value} {base : Heap}
theorem sc_ldr : FnScope ["_law_stream_here", "_law_many", "_law_digit", "_law_second"] ["_law_stream_here", "_law_many"] (defScope s_l_draw) := ⟨rfl, rfl, rfl, by decide +kernel, rfl, by decide +kernel, by decide +kernel⟩
abbrev tyDr (n : Int) : Ty := tyEx (fun r : Int => 0 ≤ r ∧ r < n) tyI
theorem f_ldr (T : Tx K mg) : C8.Cal P w K mg base 1 "_law_draw" (spW (fun n : Int => 1 ≤ n ∧ n < 2 ^ 30) (fun _ => cStr) (fun n => [tyI n]) (fun _ => cStr) (fun n => tyDr n)) [] :=
  mkCal T.g_law_draw T.d_l_draw sc_ldr (fun _ _ _ _ _ _ us hl => match us, hl with | [_, _], _ => rfl) (lenW fun _ => rfl) (bodyW fun cdv A outer s H E hr n B D p ⟨h1, h2⟩ fin _ => by
    refine Sj.openW (P := fun _ : Int × Int × Int => True) (Rk := fun z => cLst [tyI z.1, tyI z.2.1, tyI z.2.2]) 0 rfl fun ⟨a, b, c⟩ _ => ?_
    have hm : ∀ x : Int, 0 ≤ x % n ∧ x % n < n := fun x => ⟨Int.emod_nonneg _ (by omega), Int.emod_lt_of_pos _ (by omega)⟩
    have hd : CDivW a n := wide_div (b := 30) (by omega) (by omega) (by decide) (by decide)
    refine Sj.if_ (Tv.gt (ixl (Lv.own 0 (Ev.v 0 rfl) rfl) Ev.int rfl) Ev.int) (fun hz => ?_) (fun hz => Sj.go ?_ rfl)
    · refine Sj.set 2 sc_ldr.nd (Ev.mod (intI T.f_int (ixl (Lv.own 0 (Ev.v 0 rfl) rfl) Ev.int rfl)) (Ev.v 1 rfl) (by omega)) ?_
      refine Sj.setItem (z := 0) 0 (Ev.div (ixl (Lv.own 0 (Ev.v 0 rfl) rfl) Ev.int rfl) (Ev.v 1 rfl) hd) (Ev.v 0 rfl) rfl Ev.int (by show _ < 3; decide) ?_
      exact Sj.ret (Ev.v 2 rfl) fin (fun v C h => ⟨_, hm a, h⟩) (.c (fun o C h => ⟨(a / n, b, c), trivial, h⟩) .n)
    · refine Sj.setItem (z := 2) 0 (Ev.add (ixl (Lv.own 0 (Ev.v 0 rfl) rfl) Ev.int rfl) Ev.int) (Ev.v 0 rfl) rfl Ev.int (by show _ < 3; decide) ?_
      refine Sj.setItem (z := 1) 0 (Ev.mod (intI T.f_int (Ev.add (Ev.add (Ev.mulC (ixl (Lv.own 0 (Ev.v 0 rfl) rfl) Ev.int rfl) Ev.int (.inr (by decide))) (Ev.mulC (ixl (Lv.own 0 (Ev.v 0 rfl) rfl) Ev.int rfl) Ev.int (.inr (by decide)))) Ev.int)) Ev.int (by decide)) (Ev.v 0 rfl) rfl Ev.int (by show _ < 3; decide) ?_
      refine Sj.set 3 sc_ldr.nd (Ev.mod (intI T.f_int (Ev.add (Ev.mulC (ixl (Lv.own 0 (Ev.v 0 rfl) rfl) Ev.int rfl) Ev.int (.inr (by decide))) (ixl (Lv.own 0 (Ev.v 0 rfl) rfl) Ev.int rfl))) Ev.int (by decide)) ?_
      exact Sj.ret (Ev.mod (intI T.f_int (Ev.v 3 rfl)) (Ev.v 1 rfl) (by omega)) fin (fun v C h => ⟨_, hm _, h⟩) (.c (fun o C h => ⟨(a, (b * 48271 + (c + 1) * 69621 + 7) % 2147483647, c + 1), trivial, h⟩) .n))
end
end MF
set_option maxHeartbeats 4000000
/-! rules for ints that are told by a property; large. -/
namespace MJ
open PySem PySem.Spec L2
open PyProof.Rows hiding St
section
variable {X : Cx} {B : Bs} {Γ : Gm} {W : Wl} {a b : Expr} {pos : Pos} {i j : Int} {P P' : Int → Prop}
theorem Ev.toX (h : Ev X B Γ W a (tyI i)) : Ev X B Γ W a (tyEx (· = i) tyI) := Ev.conv h fun v C r => ⟨i, rfl, r⟩
theorem Ev.wkX (h : Ev X B Γ W a (tyEx P tyI)) (f : ∀ z, P z → P' z) : Ev X B Γ W a (tyEx P' tyI) := Ev.conv h fun v C ⟨z, p, r⟩ => ⟨z, f z p, r⟩
theorem Ev.addX (ha : Ev X B Γ W a (tyEx P tyI)) (hb : Ev X B Γ W b (tyEx P' tyI)) : Ev X B Γ W (.BinOp a .Add b pos) (tyEx (fun r => ∃ i j, P i ∧ P' j ∧ r = i + j) tyI) := Ev.op op_add ha hb fun x y C H Q E r1 r2 k => by
  obtain ⟨i, p1, e1⟩ := r1
  obtain ⟨j, p2, e2⟩ := r2
  exact ⟨i, j, e1, e2, k _ C H (Same.refl _) E ⟨_, ⟨i, j, p1, p2, rfl⟩, rfl⟩⟩
/-- a slot that is told by a property: any such -/
theorem Sj.openS {α : Type} {Pq : α → Prop} {Rq : α → Ty} {rest : List Stmt} {D : Ends} (i : Nat) (hi : Γ[i]? = some (some (tyEx Pq Rq))) (h : ∀ z, Pq z → Sj X B (Γ.set i (some (Rq z))) W rest D) : Sj X B Γ W rest D := fun σ C H S => by
  obtain ⟨v, e, z, p, r⟩ := S.sl.2 i _ hi
  exact h z p σ C H ⟨MF.sl_narrow S.sl hi fun v' e' h' => by rw [e] at e'; cases e'; exact r, S.en⟩
end
end MJ
namespace MF
open PySem PySem.Spec L2 MT MJ
open PyProof.Rows hiding St
section
variable {P : Program} {w : World} {K : PySem.W.Frag} {mg : Str → Option Value} {base : Heap}
abbrev tyMn (M : Int) : Ty := tyEx (fun n : Int => 1 ≤ n ∧ n ≤ M) tyI
abbrev sp_ldx : Sp := spW (fun M : Int => M < 2 ^ 30) (fun _ => cStr) (fun M => [tyMn M]) (fun _ => cStr) (fun M => tyDr M)
theorem f_ldx (T : Tx K mg) : C8.Cal P w K mg base 1 "_law_draw" sp_ldx [] :=
  mkCal T.g_law_draw T.d_l_draw sc_ldr (fun _ _ _ _ _ _ us hl => match us, hl with | [_, _], _ => rfl) (lenW fun _ => rfl) (bodyW fun cdv A outer s H E hr M B D p hM fin _ => by
    refine Sj.openS 1 rfl fun n ⟨h1, h3⟩ => ?_
    have hM : M < 2 ^ 30 := hM
    have h2 : n < 2 ^ 30 := by omega
    refine Sj.openW (P := fun _ : Int × Int × Int => True) (Rk := fun z => cLst [tyI z.1, tyI z.2.1, tyI z.2.2]) 0 rfl fun ⟨a, b, c⟩ _ => ?_
    have hm : ∀ x : Int, 0 ≤ x % n ∧ x % n < M := fun x => ⟨Int.emod_nonneg _ (by omega), Int.lt_of_lt_of_le (Int.emod_lt_of_pos _ (by omega)) h3⟩
    have hd : CDivW a n := wide_div (b := 30) (by omega) (by omega) (by decide) (by decide)
    refine Sj.if_ (Tv.gt (ixl (Lv.own 0 (Ev.v 0 rfl) rfl) Ev.int rfl) Ev.int) (fun hz => ?_) (fun hz => Sj.go ?_ rfl)
    · refine Sj.set 2 sc_ldr.nd (Ev.mod (intI T.f_int (ixl (Lv.own 0 (Ev.v 0 rfl) rfl) Ev.int rfl)) (Ev.v 1 rfl) (by omega)) ?_
      refine Sj.setItem (z := 0) 0 (Ev.div (ixl (Lv.own 0 (Ev.v 0 rfl) rfl) Ev.int rfl) (Ev.v 1 rfl) hd) (Ev.v 0 rfl) rfl Ev.int (by show _ < 3; decide) ?_
      exact Sj.ret (Ev.v 2 rfl) fin (fun v C h => ⟨_, hm a, h⟩) (.c (fun o C h => ⟨(a / n, b, c), trivial, h⟩) .n)
    · refine Sj.setItem (z := 2) 0 (Ev.add (ixl (Lv.own 0 (Ev.v 0 rfl) rfl) Ev.int rfl) Ev.int) (Ev.v 0 rfl) rfl Ev.int (by show _ < 3; decide) ?_
      refine Sj.setItem (z := 1) 0 (Ev.mod (intI T.f_int (Ev.add (Ev.add (Ev.mulC (ixl (Lv.own 0 (Ev.v 0 rfl) rfl) Ev.int rfl) Ev.int (.inr (by decide))) (Ev.mulC (ixl (Lv.own 0 (Ev.v 0 rfl) rfl) Ev.int rfl) Ev.int (.inr (by decide)))) Ev.int)) Ev.int (by decide)) (Ev.v 0 rfl) rfl Ev.int (by show _ < 3; decide) ?_
      refine Sj.set 3 sc_ldr.nd (Ev.mod (intI T.f_int (Ev.add (Ev.mulC (ixl (Lv.own 0 (Ev.v 0 rfl) rfl) Ev.int rfl) Ev.int (.inr (by decide))) (ixl (Lv.own 0 (Ev.v 0 rfl) rfl) Ev.int rfl))) Ev.int (by decide)) ?_
      exact Sj.ret (Ev.mod (intI T.f_int (Ev.v 3 rfl)) (Ev.v 1 rfl) (by omega)) fin (fun v C h => ⟨_, hm _, h⟩) (.c (fun o C h => ⟨(a, (b * 48271 + (c + 1) * 69621 + 7) % 2147483647, c + 1), trivial, h⟩) .n))
end
end MF
set_option maxHeartbeats 4000000
/-! the law's defs: large. -/
namespace MF
open PySem PySem.Spec L2 MT MJ
open PyProof.Rows hiding St
section
variable {P : Program} {w : World} {K : PySem.W.Frag} {mg : Str → Option Value} {base : Heap}
theorem sc_llg : FnScope ["_law_stream_here", "_law_top", "_law_number", "_law_step"] ["_law_stream_here", "_law_top"] (defScope s_l_large) := ⟨rfl, rfl, rfl, by decide +kernel, rfl, by decide +kernel, by decide +kernel⟩
abbrev tyZ : Ty := tyEx (fun _ : Int => True) tyI
theorem f_llg (T : Tx K mg) : C8.Cal P w K mg base 2 "_law_large" (spW (fun n : Int => 1 ≤ n) (fun _ => cStr) (fun n => [tyI n]) (fun _ => cStr) (fun n => tyDr n)) [] :=
  mkCal T.g_law_large T.d_l_large sc_llg (fun _ _ _ _ _ _ us hl => match us, hl with | [_, _], _ => rfl) (lenW fun _ => rfl) (bodyW fun cdv A outer s H E hr n B D p h1 fin _ => by
    have h1 : 1 ≤ n := h1
    refine Sj.set 2 sc_llg.nd (Ev.toX (Ev.int (i := 0))) ?_
    refine Sj.for_ rfl PassesOwn.never (Iv.range T.f_range Ev.int (by decide) (by decide)) (fun x => gName 3 sc_llg.nd) (fun _ => [some (tyP p), some (tyI n), some tyZ, none]) (fun _ => [(p, cStr)]) (.k (.k (.c (fun v C ⟨z, _, h⟩ => ⟨z, trivial, h⟩) (.d .n)))) (Wc.refl _) (fun B' _ _ _ m k hk => ?_) ?_
    · refine Sj.openS 2 rfl fun z _ => ?_
      refine Sj.set 2 sc_llg.nd (Ev.addX (Ev.toX (Ev.mulC (Ev.v 2 rfl) Ev.int (.inr (by decide)))) (Ev.callW 0 (f_ldx T) hr (by decide) (1000000007 : Int) rfl (by decide) (As.cons (Ev.v 0 rfl) (As.cons (Ev.conv Ev.int fun v C h => ⟨1000000007, by decide, h⟩) As.nil)))) ?_
      refine Sj.at (.k (.k (.c (fun v C hv => ?_) (.d .n)))) (Wc.refl _)
      obtain ⟨z, _, h⟩ := hv
      exact ⟨z, trivial, h⟩
    · refine Sj.openS 2 rfl fun z _ => ?_
      exact Sj.ret (Ev.mod (intI T.f_int (Ev.v 2 rfl)) (Ev.v 1 rfl) (by omega)) fin (fun v C h => ⟨_, ⟨Int.emod_nonneg _ (by omega), Int.emod_lt_of_pos _ (by omega)⟩, h⟩) (Wc.refl _))
end
end MF
set_option maxHeartbeats 4000000
/-! the law's defs: stream. -/
namespace MF
open PySem PySem.Spec L2 MT MJ
open PyProof.Rows hiding St
section
variable {P : Program} {w : World} {K : PySem.W.Frag} {mg : Str → Option Value} {base : Heap}
theorem sc_lst : FnScope ["_law_script", "_law_at", "_law_cell"] ["_law_script", "_law_at"] (defScope s_l_stream) := ⟨rfl, rfl, rfl, by decide +kernel, rfl, by decide +kernel, by decide +kernel⟩
abbrev sp_lst (K : PySem.W.Frag) : Sp := spO (fun i : List Int × Int => 0 ≤ i.2 ∧ i.2 ≤ 10 ∧ i.1.length < 2 ^ 62) (fun i => [tyScr K i.1, tyI i.2]) (fun _ => cStr)
theorem f_lst (T : Tx K mg) : C8.Cal P w K mg base 1 "_law_stream" (sp_lst K) [] :=
  mkCal T.g_law_stream T.d_l_stream sc_lst (fun _ _ _ _ _ _ us hl => match us, hl with | [_, _], _ => rfl) (lenO fun _ => rfl) (bodyO fun cdv A outer s H E hr i B D hp fin => by
    obtain ⟨xs, t⟩ := i
    obtain ⟨h0, h1, h2⟩ := hp
    have h0 : 0 ≤ t := h0
    have h1 : t ≤ 10 := h1
    have h2 : xs.length < 2 ^ 62 := h2
    refine Sj.set 2 sc_lst.nd (Ev.add (Ev.mulC Ev.int (Ev.v 1 rfl) (.inl (by decide))) Ev.int) ?_
    refine Sj.two (Γe := [some (tyScr K xs), some (tyI t), some tyZ]) (We := []) ?_ fun hre => ?_
    · refine Sj.two (Γe := [some (tyScr K xs), some (tyI t), some tyZ]) (We := []) ?_ fun hre => ?_
      · refine Sj.openS 2 rfl fun c _ => ?_
        refine Sj.if_ (Tv.ge (Ev.v 2 rfl) (Ev.pow Ev.int Ev.int (by unfold CPow; decide))) (fun hz => ?_) (fun hz => Sj.go ?_ rfl)
        · exact Sj.retL (As.cons (Ev.v 2 rfl) (As.cons (Ev.mod (intI T.f_int (Ev.v 2 rfl)) Ev.int (by decide)) (As.cons Ev.int As.nil))) fin (fun vs C al => ⟨(c, c % 2147483647, 0), trivial, _, rfl, al⟩) (small64 (by show 3 < 64; decide))
        · exact Sj.retL (As.cons Ev.int (As.cons (Ev.mod (intI T.f_int (Ev.v 2 rfl)) Ev.int (by decide)) (As.cons Ev.int As.nil))) fin (fun vs C al => ⟨(0, c % 2147483647, 0), trivial, _, rfl, al⟩) (small64 (by show 3 < 64; decide))
      · refine Sj.openS 2 rfl fun c _ => ?_
        refine Sj.if_ (Tv.lt (Ev.v 2 rfl) Ev.int) (fun hz => ?_) (fun hz => Sj.go (fun σ C H S => hre σ C H (S.ws (.k (.k (.c (fun v C h => ⟨_, trivial, h⟩) .n))) .n)) rfl)
        exact Sj.set 2 sc_lst.nd (Ev.sub Ev.int (Ev.v 2 rfl)) (Sj.go (fun σ C H S => hre σ C H (S.ws (.k (.k (.c (fun v C h => ⟨_, trivial, h⟩) .n))) .n)) rfl)
    refine Sj.if_ (Tv.gt (lenScr T.f_len (Ev.v 0 rfl)) Ev.int) (fun hz => ?_) (fun hz => Sj.go (fun σ C H S => hre σ C H (S.ws (.k (.k (.c (fun v C h => ⟨_, trivial, h⟩) .n))) .n)) rfl)
    · have hl : 0 < (xs.length : Int) := of_decide_eq_true hz.symm
      have hj : (t % (xs.length : Int)).toNat < xs.length := by have a := Int.emod_nonneg t (show (xs.length : Int) ≠ 0 by omega); have b := Int.emod_lt_of_pos t hl; omega
      have ha : atI xs (t % (xs.length : Int)) = some xs[(t % (xs.length : Int)).toNat] := by
        have := ati_nat (List.getElem?_eq_getElem hj)
        rwa [Int.toNat_of_nonneg (Int.emod_nonneg t (show (xs.length : Int) ≠ 0 by omega))] at this
      refine Sj.set 2 sc_lst.nd (Ev.add (intI T.f_int (ixScr (Ev.v 0 rfl) (Ev.mod (Ev.v 1 rfl) (lenScr T.f_len (Ev.v 0 rfl)) hl) ha)) (Ev.mulC (Ev.div (Ev.v 1 rfl) (lenScr T.f_len (Ev.v 0 rfl)) (wide_div (b := 62) hl (by omega) (by decide) (by decide))) Ev.int (.inr (by decide)))) (Sj.go (fun σ C H S => hre σ C H (S.ws (.k (.k (.c (fun v C h => ⟨_, trivial, h⟩) .n))) .n)) rfl))
end
end MF
set_option maxHeartbeats 4000000
/-! the law's defs: part. -/
namespace MF
open PySem PySem.Spec L2 MT MJ
open PyProof.Rows hiding St
theorem Tv.eqX {X : Cx} {B : Bs} {Γ : Gm} {W : Wl} {a b : Expr} {pos : Pos} {j : Int} {P : Int → Prop} (ha : Ev X B Γ W a (tyEx P tyI)) (hb : Ev X B Γ W b (tyI j)) : Tv X B Γ W (.Compare a [.Eq] [b] pos) (fun bb => ∃ z, P z ∧ bb = decide (z = j)) := fun σ C H S Q k =>
  toT (pt_cmp (pc_eqI pe_s pe_s)) (ha σ C H S _ fun x C1 H1 s1 E1 r1 => hb σ C1 H1 (S.go s1 E1) _ fun y C2 H2 s2 E2 r2 => by
    obtain ⟨i, p, r1⟩ := r1
    exact ⟨i, j, r1, r2, _, rfl, k _ C2 H2 (s1.trans s2) E2 ⟨i, p, rfl⟩⟩)
section
variable {P : Program} {w : World} {K : PySem.W.Frag} {mg : Str → Option Value} {base : Heap}
abbrev PtOk (xs l : List Str) : Prop := (∀ x ∈ l, x ∈ xs) ∧ l.length ≤ xs.length ∧ (xs.Nodup → l.Nodup)
theorem sc_lpt : FnScope ["_law_stream_here", "_law_texts", "_law_shape", "_law_text_here"] ["_law_stream_here", "_law_texts"] (defScope s_l_part) := ⟨rfl, rfl, rfl, by decide +kernel, rfl, by decide +kernel, by decide +kernel⟩
theorem f_lpt (T : Tx K mg) : C8.Cal P w K mg base 2 "_law_part" (spW (fun xs : List Str => xs.length ≤ 64) (fun _ => cStr) (fun xs => [tyLs xs]) (fun _ => cStr) (fun xs => tyEx (PtOk xs) tyLs)) [] :=
  mkCal T.g_law_part T.d_l_part sc_lpt (fun _ _ _ _ _ _ us hl => match us, hl with | [_, _], _ => rfl) (lenW fun _ => rfl) (bodyW fun cdv A outer s H E hr xs B D p hp fin _ => by
    have hp : xs.length ≤ 64 := hp
    refine Sj.set 2 sc_lpt.nd (Ev.callW 0 (f_ldx T) hr (by decide) (5 : Int) rfl (by decide) (As.cons (Ev.v 0 rfl) (As.cons (Ev.conv Ev.int fun v C h => ⟨5, by decide, h⟩) As.nil))) ?_
    refine Sj.openS 2 rfl fun z hz => ?_
    refine Sj.if_ (Tv.eqI (Ev.v 2 rfl) Ev.int) (fun h0 => ?_) (fun h0 => Sj.go ?_ rfl)
    · exact Sj.ret (Ev.lst As.nil) fin (fun v C h => ⟨[], ⟨fun x (hx : x ∈ ([] : List Str)) => absurd hx List.not_mem_nil, Nat.zero_le _, fun _ => List.nodup_nil⟩, h⟩) (Wc.refl _)
    refine Sj.if_ (Tv.eqI (Ev.v 2 rfl) Ev.int) (fun h1 => ?_) (fun h1 => Sj.go ?_ rfl)
    · refine Sj.ret (listRev rfl T.f_list T.f_reversed (Ev.v 1 rfl)) fin (fun v C h => ⟨xs.reverse, ⟨fun x hx => List.mem_reverse.mp hx, by rw [List.length_reverse]; exact Nat.le_refl _, fun nd => (List.reverse_perm xs).nodup_iff.mpr nd⟩, ?_⟩) (Wc.refl _)
      rw [← List.map_reverse] at h; exact h
    have g0 : z ≠ 0 := of_decide_eq_false h0.symm
    refine Sj.ret (Ev.lcEx (xs := xs) (Rx := tyS) (Ro := tyS) (P := fun _ bb => ∃ y, (0 ≤ y ∧ y < 5) ∧ bb = decide (y = 0)) [("_law_text_here", 3)] rfl sc_lpt.nd (Iv.list (Ev.v 1 rfl)) (blkOk_by (N := ["_law_stream_here", "_law_texts", "_law_shape", "_law_text_here"]) (sc := defScope s_l_part) (by decide +kernel))
      (fun x s0 H0 Cc cl fp => gName 3 sc_lpt.nd) (by decide) (small1000 (by omega)) (fun x hx s0 H0 Cc cl fp D K => Qv.one (Tv.eqX (Ev.callW 0 (f_ldx T) hr (by decide) (5 : Int) rfl (by decide) (As.cons (Ev.v 0 rfl) (As.cons (Ev.conv (Ev.v 2 rfl) fun v C h => ⟨z, by omega, h⟩) As.nil))) Ev.int)) (fun x hx _ s0 H0 Cc cl fp D K => Ev.v 3 rfl)) fin (fun v C h => ?_) (Wc.refl _)
    obtain ⟨l, fl, r⟩ := h
    exact ⟨l, ⟨fun x hx => fl.sub.subset hx, fl.len, fun nd => fl.sub.nodup nd⟩, r⟩)
end
end MF
set_option maxHeartbeats 4000000
/-! defs whose first argument is owned and whose second is another owned thing that is only read. -/
namespace MJ
open PySem PySem.Spec L2
open PyProof.Rows hiding St
theorem EntE.down1R {B : Bs} {C H : Hp} {W : Wl} {p : Addr} {K : Con} {j : Nat} (E : EntE B C W H) (hj : W[j]? = some (p, K)) : ∃ g, g p = none ∧ (∀ l q K2, W[l]? = some (q, K2) → l ≠ j → ∃ o, g q = some o ∧ Mut (some o) ∧ K2.r o C) ∧ EntE ⟨C, g⟩ C [(p, K)] H ∧ ∀ C' H' K', EntE ⟨C, g⟩ C' [(p, K')] H' → Same C C' ∧ EntE B C' (W.set j (p, K')) H' := by
  obtain ⟨G, E⟩ := E
  obtain ⟨b1, b2, o, b3, b4, b5⟩ := E.ow _ (List.mem_of_getElem? hj)
  have b1 : B.g p = none := b1
  have b2 : C p = none := b2
  have sub : Same (fun a => if a = p then none else G a) G := fun a u e => by
    by_cases ha : a = p
    · simp [ha] at e
    · simpa only [ha, if_false] using e
  refine ⟨fun a => if a = p then none else G a, by simp, fun l q K2 hl lj => ?_, ⟨G, E.gh, E.ch, Same.refl _, fun a o o' e _ => e, sub, by simp, fun q hq => ?_⟩, fun C' H' K' ⟨G', E'⟩ => ?_⟩
  · obtain ⟨a1, a2, u, a3, a4, a5⟩ := E.ow _ (List.mem_of_getElem? hl)
    have ha : q ≠ p := fun z => lj (nd_at E.nd hj (by rw [hl, ← z]))
    exact ⟨u, by simp only [ha, if_false]; exact a3, a4, a5⟩
  · have e : q = (p, K) := by simpa using hq
    subst e
    exact ⟨by simp, b2, o, b3, b4, b5⟩
  · obtain ⟨c1, c2, o', c3, c4, c5⟩ := E'.ow (p, K') (by simp)
    have c3 : G' p = some o' := c3
    have g0' : ∀ a u, a ≠ p → G a = some u → G' a = some u := fun a u ha e => E'.g0 a u (by simp only [ha, if_false]; exact e)
    refine ⟨E'.cc, upd G p o', fun a u e => ?_, E'.ch, E.cc.trans E'.cc, fun a u u' e e' => ?_, fun a u e => ?_, by rw [map_set_fst hj]; exact E.nd, fun q hq => ?_⟩
    · by_cases ha : a = p
      · subst ha; rw [upd_same] at e; cases e; exact E'.gh _ _ c3
      · rw [upd_ne ha] at e; exact E'.gh a u (g0' a u ha e)
    · have ha : a ≠ p := fun z => by subst z; rw [c2] at e; cases e
      rw [upd_ne ha] at e'
      exact E.dj a u u' (E'.dj a u u' e (g0' a u' ha e')) e'
    · have ha : a ≠ p := fun z => by subst z; rw [b1] at e; cases e
      rw [upd_ne ha]; exact E.g0 a u e
    · obtain ⟨i, hi⟩ := List.getElem?_of_mem hq
      by_cases ij : i = j
      · subst ij
        rw [List.getElem?_set_self (List.getElem?_eq_some_iff.mp hj).1] at hi
        cases hi
        exact ⟨b1, c2, o', upd_same, c4, c5⟩
      · rw [List.getElem?_set_ne (Ne.symm ij)] at hi
        obtain ⟨a1, a2, u, a3, a4, a5⟩ := E.ow q (List.mem_of_getElem? hi)
        have ha : q.1 ≠ p := fun z => ij (nd_at E.nd hj (by rw [hi, ← z]))
        refine ⟨a1, ?_, u, by rw [upd_ne ha]; exact a3, a4, q.2.mono E'.cc a5⟩
        cases z : C' q.1 with
        | none => rfl
        | some o =>
          have z2 : C q.1 = some o := E'.dj q.1 o u z (g0' _ _ ha a3)
          rw [a2] at z2; cases z2
def spR {ι : Type} (pre : ι → Prop) (K : ι → Con) (K2 : ι → Con) (ar : ι → List Ty) (K' : ι → Con) (R : ι → Ty) : Sp := fun vs H Q _ => ∃ (i : ι) (C g : Hp) (p q : Addr) (o : HO) (ws : List V), pre i ∧ EntE ⟨C, g⟩ C [(p, K i)] H ∧ g q = some o ∧ (K2 i).r o C ∧ vs = .ref p :: .ref q :: ws ∧ Als (ar i) ws C ∧
  ∀ v C' H', EntE ⟨C, g⟩ C' [(p, K' i)] H' → (R i).r v C' → Q v H'
section
variable {ι : Type} {pre : ι → Prop} {ar : ι → List Ty} {Rr : ι → Ty} {Kk Kk' K2 : ι → Con} {k n : Nat}
theorem bodyR {P : Program} {w : World} {K : PySem.W.Frag} {mg : Str → Option Value} {base : Heap} {N : List Str} {qual : Str} {st : Stmt} {f : Addr} {k : Nat}
    (h : BodyT P w K mg base N qual st f k fun X => ∀ (i : ι) (B : Bs) (D : Ends) (p q : Addr) (o : HO), pre i → B.g q = some o → (K2 i).r o B.c → Fin B [(p, Kk' i)] (Rr i) D → Sj X B (stG (tyP p :: tyP q :: ar i) N.length) [(p, Kk i)] (defBody st) D) :
    ∀ (cdv : Value) (A : Around) (outer : List Env) (s : Shared) (H : Hp) (vs : List V) (Q : VK) (E : XK), Room k (A.deeper (envOfC qual (defScope st) s.heap.objs.size f cdv)) → spR pre Kk K2 ar Kk' Rr vs H Q E →
      ∃ t, PSs (cxOf CX0 P w K mg base N qual (defScope st) f cdv A outer s H E).nox (defBody st) t ∧ t { nx := fun _ H' => Q .non H', rt := Q } (L2.start N vs) H := by
  rintro cdv A outer s H vs Q E hr ⟨i, C, g, p, q, o, ws, hp, En, hg, hk, rfl, al, qq⟩
  exact ⟨_, pb_s, h cdv A outer s H E hr i ⟨C, g⟩ _ p q o hp hg hk (fun v C' H' E' r => qq v C' H' E' r) _ C H ⟨sl_start (.cons rfl (.cons rfl al)), En⟩⟩
theorem lenR {n : Nat} (h : ∀ i, (ar i).length + 2 = n) : ∀ vs H Q E, spR pre Kk K2 ar Kk' Rr vs H Q E → vs.length = n := fun vs H Q E ⟨i, C, g, p, q, o, ws, hp, En, _, _, e, al, _⟩ => by rw [← h i, e, Paired.length al]; rfl
theorem Ev.callR {X : Cx} {B : Bs} {Γ : Gm} {W : Wl} {e : Expr} {es : List Expr} {pos p : Pos} {x : Str} {pw qw : Addr} (jw lw : Nat) (c : C8.Cal X.prog X.w X.K X.mg X.base k x (spR pre Kk K2 ar Kk Rr) []) (hr : Room n X.A) (hk : k ≤ n) (i : ι) (hj : W[jw]? = some (pw, Kk i)) (hl : W[lw]? = some (qw, K2 i)) (hne : lw ≠ jw) (hp : pre i) (ha : As X B Γ W (e :: es) (tyP pw :: tyP qw :: ar i)) (hg : Gl X x := by rfl)
    (hdb : (x == ("__debug__" : Str)) = false := by decide) (he : starEach (e :: es) X.env = (false, eval e X.env) :: starEach es X.env := by rfl) (hpl : (backTo pos (starEach es X.env)).any (·.1) = false := by rfl) :
    Ev X B Γ W (.Call (.Name x p) (e :: es) [] pos) (Rr i) := fun σ C H S Q q =>
  toE (C8.pe_c c hr hk hg pa_s hdb he hpl) (show tCall _ _ _ (sA X (e :: es)) σ H Q from fun pos pins s I => ha σ C H S _ (fun vs C1 H1 s1 E1 al => by
    obtain ⟨g, gn, gr, E2, up⟩ := E1.down1R hj
    obtain ⟨o, g1, _, g2⟩ := gr lw qw _ hl hne
    cases al with
    | cons r0 al =>
      cases r0
      cases al with
      | cons r1 al =>
        cases r1
        exact ⟨i, C1, g, pw, qw, o, _, hp, E2, g1, g2, by rw [List.append_nil], al, fun v C' H' E' r => let ⟨s', E3⟩ := up C' H' _ E'; q v C' H' (s1.trans s') (by rwa [set_self hj] at E3) r⟩) pos pins s I)
end
end MJ
set_option maxHeartbeats 4000000
/-! walks over one of several lists; texts that are told by a property. -/
namespace MJ
open PySem PySem.Spec L2
open PyProof.Rows hiding St
section
variable {X : Cx} {B : Bs} {Γ Γ' : Gm} {W W' : Wl} {a b c e o tg iter elt value : Expr} {es tgs ifs : List Expr} {pos pos' apos p spos : Pos} {R Ra Rb T : Ty} {Ts Us : List Ty} {K : Con} {x f m : Str} {i j : Int} {scope : Scope} {α : Type}
variable {st : Stmt} {rest A E body : List Stmt} {D : Ends}
def IvX (X : Cx) (B : Bs) (Γ : Gm) (W : Wl) (tg e : Expr) (P : List α → Prop) (Rx : α → Ty) : Prop := ∃ wi, PI X tg e wi ∧ ∀ (σ : L2.St) (C H : Hp), Stt B Γ W σ C H → ∀ R : It → Hp → Prop, (∀ xs J C' H', P xs → Same C C' → EntE B C' W H' → Wk B J C' (xs.map Rx) → R J H') → wi σ H R
theorem IvX.list {P : List α → Prop} {Rx : α → Ty} (h : Ev X B Γ W e (tyEx P fun xs => tyLst (xs.map Rx))) : IvX X B Γ W tg e P Rx := ⟨_, pi_list pe_s, fun σ C H S R k => h σ C H S _ fun v C1 H1 s1 E1 ⟨xs, hx, r⟩ => by
  obtain ⟨p, vs, rfl, hc, hp, al⟩ := getL E1 r
  exact ⟨p, rfl, ⟨vs, SqL.of hp⟩, k xs _ C1 H1 hx s1 E1 (wk_of walk_list (Paired.length al) (fun C H W s E => SqL.of (list_in hc s E)) fun i C H W v H' T ht s E y => yAt al ht s E y)⟩⟩
theorem IvX.range {P : Int → Prop} (hm : X.mg "range" = none) (h : Ev X B Γ W e (tyEx P tyI)) (hb : ∀ n, P n → 0 ≤ n ∧ n < 2 ^ 62) (hg : Gl X "range" := by rfl) (hs : starEach [e] X.env = [(false, eval e X.env)] := by rfl) :
    IvX X B Γ W tg (.Call (.Name "range" p) [e] [] pos) (fun xs => ∃ n, P n ∧ xs = List.range n.toNat) (fun k : Nat => tyI (k : Int)) := ⟨_, pi_range1 hg hm (pa_cons pe_s pa_nil hs) hs, fun σ C H S R k => by
  refine h σ C H S _ fun v C1 H1 s1 E1 ⟨n, hn, r⟩ => ⟨n, by rw [show v = _ from r], by have := (hb n hn).1; omega, (hb n hn).2, k _ _ C1 H1 ⟨n, hn, rfl⟩ s1 E1 (wk_of walk_range (by simp) (fun _ _ _ _ _ => True.intro) fun i C H W v H' T ht s E y => ?_)⟩
  obtain ⟨rfl, rfl⟩ := y
  rw [List.getElem?_map] at ht
  have hi := (List.getElem?_eq_some_iff.mp (show (List.range n.toNat)[i]? = some i by
    cases z : (List.range n.toNat)[i]? with
    | none => rw [z] at ht; cases ht
    | some w => rw [List.getElem?_eq_some_iff] at z; obtain ⟨_, z⟩ := z; rw [List.getElem_range] at z; rw [z])).1
  rw [List.getElem?_eq_getElem hi, List.getElem_range] at ht
  cases ht
  exact ⟨C, Same.refl _, E, by show V.int (0 + (i : Int)) = V.int (i : Int); rw [Int.zero_add]⟩⟩
theorem Sj.forX {ι : Type} {P : List α → Prop} {Rx : α → Ty} {is : List Nat} {Tx : α → List Ty} (hcalm : X.calm = true) (hp : PassesOwn (model X.prog X.w) X.A X.env X.xe) (hi : IvX X B Γ W tg iter P Rx) (hg : ∀ x, Gv X tg (Rx x) is (Tx x)) (I : List α → Nat → ι → Prop) (G : Nat → ι → Gm) (WW : Nat → ι → Wl)
    (a0 : ι) (i0 : ∀ xs, P xs → I xs 0 a0) (w0 : Ws Γ (G 0 a0)) (v0 : Wc W (WW 0 a0))
    (hb : ∀ B', (∀ Wf R, Fin B Wf R D → Fin B' Wf R D) → ∀ xs n x, P xs → xs[n]? = some x → ∀ a, I xs n a → Sj X B' (setG (G n a) is (Tx x)) (WW n a) body (Dl D (fun σ H => ∃ a', I xs (n + 1) a' ∧ At B' (G (n + 1) a') (WW (n + 1) a') σ H) (sB X rest D)))
    (hr : ∀ xs, P xs → ∀ a, I xs xs.length a → Sj X B (G xs.length a) (WW xs.length a) rest D) (hs : ∀ x, foldedSetIterable iter X.env x = pure x := by intro _; rfl) : Sj X B Γ W (.For tg iter body [] spos :: rest) D := fun σ C H S => by
  obtain ⟨wi, pi, qi⟩ := hi
  refine cons_ (ps_for (g := sG X tg) hp hcalm pi ⟨fun pins s σ H v u Q I r h => h pins s u I r⟩ pb_s hs) ?_
  refine qi σ C H S _ fun xs J C1 H1 hxs s1 E1 wk => ?_
  have S1 := S.go s1 E1
  have w : Walk J xs.length (fun H => ∃ C W', Same C1 C ∧ EntE B C W' H) (fun i H v H' => J.yld i H v H') :=
    ⟨fun i H hi ⟨C, W', s, E⟩ => wk.goes i C H W' (by rw [List.length_map]; exact hi) s E, fun H ⟨C, W', s, E⟩ => by have := wk.stops C H W' s E; rwa [List.length_map] at this, fun _ _ _ _ _ _ y => y⟩
  refine for_it w (fun n σ H => ∃ a C, I xs n a ∧ Stt ⟨C1, B.g⟩ (G n a) (WW n a) σ C H) ⟨a0, C1, i0 xs hxs, (S1.sl.ws w0), (E1.wc v0).rebase⟩ (fun n σ H _ ⟨a, C, _, S'⟩ => ⟨C, _, S'.en.cc, S1.en.back S'.en⟩) (fun n v σ2 H2 H3 hn ⟨a, C2, ia, S2⟩ y => ?_) (fun σ2 H2 ⟨a, C2, ia, S2⟩ => hr xs hxs a ia σ2 C2 H2 (back_st S1 S2))
  have hx : xs[n]? = some xs[n] := by rw [List.getElem?_eq_getElem hn]
  generalize hxe : xs[n] = x at hx
  have Sb := back_st S1 S2
  obtain ⟨C3, s3, E3, rv⟩ := wk.yields n C2 H2 _ v H3 (Rx x) (by rw [List.getElem?_map, hx]; rfl) S2.en.cc Sb.en y
  obtain ⟨g, pg, qg⟩ := hg x
  intro pins s u I' ru
  refine pg.run pins s _ H3 v u _ I' ru (qg B _ _ C3 H3 v _ E3 rv fun ws al => ?_)
  have E3' : EntE ⟨C1, B.g⟩ C3 (WW n a) H3 := by
    obtain ⟨G3, E3⟩ := E3
    exact ⟨G3, E3.gh, E3.ch, S2.en.cc.trans s3, fun a o o' e e' => E1.cc a o (E3.dj a o o' e e'), E3.g0, E3.nd, E3.ow⟩
  have hh := hb ⟨C1, B.g⟩ (fun Wf R fin => fin_back S1 fin) xs n x hxs hx a ia _ C3 H3 ⟨sl_set al (S2.sl.mono s3), E3'⟩
  have en : (fun (σ : L2.St) (H : Hp) => ∃ a', I xs (n + 1) a' ∧ At ⟨C1, B.g⟩ (G (n + 1) a') (WW (n + 1) a') σ H) = (fun σ H => ∃ a C, I xs (n + 1) a ∧ Stt ⟨C1, B.g⟩ (G (n + 1) a) (WW (n + 1) a) σ C H) := by
    funext σ H
    exact propext ⟨fun ⟨a', i', C, S⟩ => ⟨a', C, i', S⟩, fun ⟨a', C, i', S⟩ => ⟨a', i', C, S⟩⟩
  rw [en] at hh
  exact hh
/-- the end of a turn of such a loop -/
theorem Sj.atX {ι : Type} {I : ι → Prop} {G : ι → Gm} {WW : ι → Wl} (a : ι) (ia : I a) (w : Ws Γ (G a)) (v : Wc W (WW a)) {Bk : L2.St → Hp → Prop} : Sj X B Γ W [] (Dl D (fun σ H => ∃ a', I a' ∧ At B (G a') (WW a') σ H) Bk) := Sj.nil fun σ C H S => ⟨a, ia, C, S.ws w v⟩
/-- .. behind an if -/
theorem Sj.goX {ι : Type} {I : ι → Prop} {G : ι → Gm} {WW : ι → Wl} (a : ι) (ia : I a) (w : Ws Γ (G a)) (v : Wc W (WW a)) {Bk : L2.St → Hp → Prop} : Sj X B Γ W [] (Dn (Dl D (fun σ H => ∃ a', I a' ∧ At B (G a') (WW a') σ H) Bk) (sB X [] (Dl D (fun σ H => ∃ a', I a' ∧ At B (G a') (WW a') σ H) Bk))) := Sj.go (Sj.atX (I := I) (G := G) (WW := WW) a ia w v) rfl
/-- [.. for .. in one of several lists ..] -/
theorem Ev.lcX {PX : List α → Prop} {Rx : α → Ty} {P : α → Bool → Prop} {Ro : α → Ty} {is : List Nat} {Tx : α → List Ty} (own : List (Str × Nat)) (hcalm : X.calm = true) (nd : X.N.Nodup)
    (hi : IvX X B Γ W tg iter PX Rx) (ok : BlkOk X.N X.env.scope scope own)
    (hg : ∀ x s0 H0 Cc cl fp, Gv (Bk X scope s0 H0 Cc cl fp) tg (Rx x) is (Tx x)) (hv : ∀ i ∈ is, i ∈ own.map (·.2)) (hl : ∀ xs, PX xs → xs.length < sizeLine)
    (hc : ∀ xs, PX xs → ∀ x ∈ xs, ∀ s0 H0 Cc cl fp D K, Qv (Bk X scope s0 H0 Cc cl fp) B (setG (wipeG Γ (own.map (·.2))) is (Tx x)) (W ++ [(D, K)]) ifs (P x))
    (he : ∀ xs, PX xs → ∀ x ∈ xs, P x true → ∀ s0 H0 Cc cl fp D K, Ev (Bk X scope s0 H0 Cc cl fp) B (setG (wipeG Γ (own.map (·.2))) is (Tx x)) (W ++ [(D, K)]) elt (Ro x)) (hs : ∀ x, foldedSetIterable iter X.env x = pure x := by intro _; rfl) :
    Ev X B Γ W (.ListComp elt [⟨tg, iter, ifs, 0⟩] scope pos) (tyEx (fun l => ∃ xs, PX xs ∧ Flt P xs l) fun l => tyLst (l.map Ro)) := fun σ C H S Q k => by
  obtain ⟨wi, pi, qi⟩ := hi
  refine toE (pe_lc (own := own) (g := tgA X scope tg) (tt := ttA X scope ifs) (te := teA X scope elt) hcalm nd pi ok (fun s0 H0 Cc cl fp => ⟨fun pins s σ H v u Q I r h => h s0 H0 Cc cl fp pins s u I r⟩) (fun s0 H0 Cc cl fp => ⟨fun pins s σ H Q I h => h s0 H0 Cc cl fp pins s I⟩) (fun s0 H0 Cc cl fp => ⟨fun pins s σ H Q I h => h s0 H0 Cc cl fp pins s I⟩) hs) ?_
  refine qi σ C H S _ fun xs J C1 H1 hxs s1 E1 wk D hD => ?_
  have hl := hl xs hxs
  have hc := hc xs hxs
  have he := he xs hxs
  have w : Walk J xs.length (fun H => ∃ C W', Same C1 C ∧ EntE B C W' H) (fun i H v H' => J.yld i H v H') :=
    ⟨fun i H hi ⟨C, W', s, E⟩ => wk.goes i C H W' (by rw [List.length_map]; exact hi) s E, fun H ⟨C, W', s, E⟩ => by have := wk.stops C H W' s E; rwa [List.length_map] at this, fun _ _ _ _ _ _ y => y⟩
  refine lc_it w (fun n H => ∃ C l, Same C1 C ∧ Flt P (xs.take n) l ∧ EntE B C (W ++ [(D, cLst (l.map Ro))]) H) ⟨C1, [], Same.refl _, by rw [List.take_zero]; exact .nil, E1.own hD trivial ⟨[], rfl, .nil⟩⟩ (fun n H _ ⟨C, l, s, _, E⟩ => ⟨C, _, s, E⟩) (fun n v H2 H3 hn ⟨C2, l, s2, fl, E2⟩ y => ?_) (fun H2 ⟨C2, l, s2, fl, E2⟩ => ?_)
  · have hx : xs[n]? = some xs[n] := by rw [List.getElem?_eq_getElem hn]
    generalize hxe : xs[n] = x at hx
    have hm : x ∈ xs := List.mem_of_getElem? hx
    obtain ⟨C3, s3, E3, rv⟩ := wk.yields n C2 H2 _ v H3 (Rx x) (by rw [List.getElem?_map, hx]; rfl) s2 E2 y
    have ht : xs.take (n + 1) = xs.take n ++ [x] := by rw [List.take_succ, hx]; rfl
    intro s0 H0 Cc cl fp
    obtain ⟨g, pg, qg⟩ := hg x s0 H0 Cc cl fp
    intro pins s u I ru
    refine pg.run pins s _ H3 v u _ I ru (qg B _ _ C3 H3 v _ E3 rv fun ws al => ?_)
    refine ⟨by rw [wipe_setS hv, wipe_wipe fun _ h => h], fun s0 H0 Cc cl fp => ?_⟩
    have S3 : Stt B (setG (wipeG Γ (own.map (·.2))) is (Tx x)) (W ++ [(D, cLst (l.map Ro))]) (setS (wipe σ (own.map (·.2))) is ws) C3 H3 := ⟨sl_set al (sl_wipe (S.sl.mono (s1.trans (s2.trans s3))) _), E3⟩
    refine hc x hm s0 H0 Cc cl fp D _ _ C3 H3 S3 _ fun bb C4 H4 s4 E4 pb => ?_
    cases bb with
    | true =>
      refine iteT fun s0 H0 Cc cl fp => he x hm pb s0 H0 Cc cl fp D _ _ C4 H4 (S3.go s4 E4) _ fun z C5 H5 s5 E5 rz => ?_
      obtain ⟨o, ho, _, vs', eo, al'⟩ := E5.look (app_last W _)
      subst eo
      refine ⟨vs', ho, ?_, C5, l ++ [x], s2.trans (s3.trans (s4.trans s5)), by rw [ht]; exact .keep fl pb, ?_⟩
      · rw [← Paired.length al', List.length_map]
        have := fl.len
        rw [List.length_take] at this
        omega
      · have := E5.put (K' := cLst ((l ++ [x]).map Ro)) (o' := .lst (vs' ++ [z])) (app_last W _) trivial ⟨_, rfl, by rw [List.map_append]; exact Paired.app al' (.cons rz .nil)⟩
        rwa [app_set] at this
    | false => exact iteF ⟨C4, l, s2.trans (s3.trans s4), by rw [ht]; exact .drop fl pb, E4⟩
  · rw [List.take_length] at fl
    obtain ⟨o, hn, r, sC, E3⟩ := E2.freeze (app_last W _)
    rw [app_erase] at E3
    exact k (.ref D) _ H2 (s1.trans (s2.trans sC)) E3 ⟨l, ⟨xs, hxs, fl⟩, D, o, rfl, upd_same, (cLst (l.map Ro)).mono sC r⟩
/-! texts -/
theorem lenStr {z : Str} (hm : X.mg "len" = none) (h : Ev X B Γ W e (tyS z)) (hz : z.length ≤ sizeLine) (hg : Gl X "len" := by rfl) (he : starEach [e] X.env = (false, eval e X.env) :: starEach [] X.env := by rfl) (hpl : (backTo pos (starEach [] X.env)).any (·.1) = false := by rfl) : Ev X B Γ W (.Call (.Name "len" p) [e] [] pos) (tyI z.length) :=
  Ev.bi call_len_str hm PySem.boot_len (.cons h .nil he) (fun vs C H Q E al k => by
    obtain ⟨v, rfl, r⟩ := als1 al
    cases r
    exact ⟨z, rfl, hz, k _ C H (Same.refl _) E rfl⟩) hg (by decide) (by decide) he hpl
theorem Ev.addSE {P P' Q' : Str → Prop} (ha : Ev X B Γ W a (tyEx P tyS)) (hb : Ev X B Γ W b (tyEx P' tyS)) (h : ∀ i j, P i → P' j → i.length + j.length ≤ sizeLine ∧ Q' (i ++ j)) : Ev X B Γ W (.BinOp a .Add b pos) (tyEx Q' tyS) := Ev.op op_add_str ha hb fun x y C H Q E r1 r2 k => by
  obtain ⟨i, p1, e1⟩ := r1
  obtain ⟨j, p2, e2⟩ := r2
  obtain ⟨h1, h2⟩ := h i j p1 p2
  exact ⟨i, j, e1, e2, h1, k _ C H (Same.refl _) E ⟨_, h2, rfl⟩⟩
theorem sliceS {P Q' : Str → Prop} {lo hi : Option Expr} {l u : Option Int} {p2 : Pos} (h : Ev X B Γ W a (tyEx P tyS)) (hl : Po X B Γ W lo l) (hu : Po X B Γ W hi u) (hP : ∀ z, P z → z.length ≤ sizeLine ∧ Q' (cutS z l u)) : Ev X B Γ W (.Subscript a (.Slice lo hi none p2) pos) (tyEx Q' tyS) := fun σ C H S Q k => by
  obtain ⟨tl, pl, ql⟩ := hl
  obtain ⟨tu, pu, qu⟩ := hu
  refine toE (pe_slice sl_str pe_s pl pu) (h σ C H S _ fun v C1 H1 s1 E1 ⟨z, pz, r1⟩ => ql σ C1 H1 (S.go s1 E1) _ fun C2 H2 s2 E2 => qu σ C2 H2 (S.go (s1.trans s2) E2) _ fun C3 H3 s3 E3 => ?_)
  exact ⟨z, r1, (hP z pz).1, k _ C3 H3 (s1.trans (s2.trans s3)) E3 ⟨_, (hP z pz).2, rfl⟩⟩
theorem cutS_le (z : Str) (l u : Option Int) : (cutS z l u).length ≤ z.length := by
  show ((z.cps.toList.drop _).take _).toArray.size ≤ z.cps.size
  rw [List.size_toArray, List.length_take, List.length_drop, Array.length_toList]
  omega
theorem cutS_to (z : Str) (n : Nat) : (cutS z none (some (n : Int))).length ≤ n := by
  show ((z.cps.toList.drop _).take _).toArray.size ≤ n
  rw [List.size_toArray, List.length_take, List.length_drop, Array.length_toList, HT.sIx_nat, HT.sIx_none]
  omega
theorem ixsP {P : Int → Prop} {PZ : Str → Prop} (h : Ev X B Γ W a (tyEx PZ tyS)) (hi : Ev X B Γ W b (tyEx P tyI)) (hz : ∀ z, PZ z → z.length ≤ sizeLine) (hP : ∀ z i, PZ z → P i → 0 ≤ i ∧ i < z.length) (hs : PlainIx b := by exact fun _ _ => rfl) :
    Ev X B Γ W (.Subscript a b pos) (tyEx (fun y : Str => y.length = 1) tyS) := fun σ C H S Q k =>
  toE (pe_ix ix_str pe_s pe_s hs) (h σ C H S _ fun v C1 H1 s1 E1 ⟨z, pz, r1⟩ => hi σ C1 H1 (S.go s1 E1) _ fun y C2 H2 s2 E2 ⟨i, hi, r2⟩ => by
    obtain ⟨h0, h1⟩ := hP z i pz hi
    obtain ⟨n, rfl⟩ : ∃ n : Nat, i = n := ⟨i.toNat, by omega⟩
    have hl : n < z.cps.toList.length := by have : z.length = z.cps.toList.length := (Array.length_toList).symm; omega
    exact ⟨z, n, z.cps.toList[n], r1, r2, hz z pz, atI_nat (List.getElem?_eq_getElem hl), k _ C2 H2 (s1.trans s2) E2 ⟨_, rfl, rfl⟩⟩)
theorem Ev.toP {α : Type} {P : α → Prop} {Rx : α → Ty} {z : α} (h : Ev X B Γ W a (Rx z)) (hz : P z) : Ev X B Γ W a (tyEx P Rx) := Ev.conv h fun v C r => ⟨z, hz, r⟩
theorem Ev.wkP {α : Type} {P P' : α → Prop} {Rx : α → Ty} (h : Ev X B Γ W a (tyEx P Rx)) (f : ∀ z, P z → P' z) : Ev X B Γ W a (tyEx P' Rx) := Ev.conv h fun v C ⟨z, p, r⟩ => ⟨z, f z p, r⟩
/-- x = list(e), owned -/
theorem Sj.listO {iy : Nat} {y : Str} (nd : X.N.Nodup) (hm : X.mg "list" = none) (h : Lv X B Γ W e (cLst Ts)) (hr : ∀ z, Sj X B (Γ.set iy (some (tyP z))) (W ++ [(z, cLst Ts)]) rest D) (hg : Gl X "list" := by rfl)
    (hi : X.N[iy]? = some y := by rfl) (hx : Loc X.env.scope y := by first | exact Or.inl rfl | exact Or.inr rfl)
    (hs : swapsWith (.Call (.Name "list" p) [e] [] pos) (some (.Name y pos')) spos.line X.env = pure false := by rfl) (hf : X.fn y = true ∨ X.env.scope.names.lookup y = some .local := by first | exact .inl rfl | exact .inr rfl)
    (he : starEach [e] X.env = (false, eval e X.env) :: starEach [] X.env := by rfl) (hpl : (backTo pos (starEach [] X.env)).any (·.1) = false := by rfl) :
    Sj X B Γ W (.Assign [.Name y pos'] (.Call (.Name "list" p) [e] [] pos) spos :: rest) D := fun σ C H S =>
  cons_ (ps_set nd hi hx (pe_callTy call_list_of hg hm boot_list (pa_cons pe_s pa_nil he) (by decide) (by decide) he hpl) hs hf) (show tCB _ (tCons (sE X e) tNil) σ H _ from h σ C H S _ fun q C1 H1 s1 E1 g => by
    obtain ⟨o, h1, vs, rfl, al⟩ := g C1 H1 (Same.refl _) E1
    exact ⟨q, vs, rfl, .inl (SqL.of (at_lst h1)), fun z hz => hr z _ C1 _ ⟨Sl.set iy (S.sl.mono s1) rfl, E1.own hz trivial ⟨vs, rfl, al⟩⟩⟩)
end
end MJ
set_option maxHeartbeats 4000000
/-! the law's defs: text, pool. -/
namespace MF
open PySem PySem.Spec L2 MT MJ
open PyProof.Rows hiding St
section
variable {X : Cx} {B : Bs} {Γ : Gm} {W : Wl} {a b e : Expr} {n : Nat} {pos pos2 p pc : Pos} {q : Addr} {M c : Int}
theorem Ev.draw (T : Tx X.K X.mg) (hr : Room n X.A) (hk : 1 ≤ n) (jw : Nat) (hM : M < 2 ^ 30) (h1 : Ev X B Γ W a (tyP q)) (hj : W[jw]? = some (q, cStr)) (h2 : Ev X B Γ W b (tyMn M)) (hg : Gl X "_law_draw" := by rfl)
    (he : starEach [a, b] X.env = (false, eval a X.env) :: starEach [b] X.env := by rfl) (he2 : starEach [b] X.env = (false, eval b X.env) :: starEach [] X.env := by rfl) (hpl : (backTo pos (starEach [b] X.env)).any (·.1) = false := by rfl) :
    Ev X B Γ W (.Call (.Name "_law_draw" p) [a, b] [] pos) (tyDr M) :=
  Ev.callW jw (f_ldx T) hr hk M hj hM (As.cons h1 (As.cons h2 As.nil he2) he) hg (by decide) he hpl
theorem Ev.mn (h : Ev X B Γ W e (tyI c)) (h1 : 1 ≤ c) (h2 : c ≤ M) : Ev X B Γ W e (tyMn M) := Ev.conv h fun v C r => ⟨c, ⟨h1, h2⟩, r⟩
theorem Ev.sign {sg : Str} {jj} (T : Tx X.K X.mg) (hr : Room n X.A) (hk : 1 ≤ n) (jw : Nat) (hsg : sg.length = 94) (hs : Ev X B Γ W a (tyS sg)) (h1 : Ev X B Γ W b (tyP q)) (hj : W[jw]? = some (q, cStr)) (hg : Gl X "_law_draw" := by rfl)
    (he : starEach [b, .Constant (.int 94) jj pc] X.env = (false, eval b X.env) :: starEach [.Constant (.int 94) jj pc] X.env := by rfl) (he2 : starEach [Expr.Constant (.int 94) jj pc] X.env = (false, eval (Expr.Constant (.int 94) jj pc) X.env) :: starEach [] X.env := by rfl) (hpl : (backTo pos (starEach [Expr.Constant (.int 94) jj pc] X.env)).any (·.1) = false := by rfl)
    (hx : PlainIx (.Call (.Name "_law_draw" p) [b, .Constant (.int 94) jj pc] [] pos) := by exact fun _ _ => rfl) :
    Ev X B Γ W (.Subscript a (.Call (.Name "_law_draw" p) [b, .Constant (.int 94) jj pc] [] pos) pos2) (tyEx (fun y : Str => y.length = 1) tyS) :=
  ixsP (PZ := (· = sg)) (Ev.toP hs rfl) (Ev.draw T hr hk jw (M := 94) (by decide) h1 hj (Ev.mn Ev.int (by decide) (by decide)) hg he he2 hpl) (fun z e => by rw [e, hsg]; exact Nat.le_of_lt (small1000 (by decide))) (fun z i e h => by rw [e, hsg]; exact h) hx
end
section
variable {P : Program} {w : World} {K : PySem.W.Frag} {mg : Str → Option Value} {base : Heap}
abbrev TxOk (z : Str) : Prop := z.length ≤ 10
abbrev NTx : List Str := ["_law_stream_here", "_law_texts", "_law_signs", "_law_shape", "_law_old", "_law_place", "_law_length", "_law_few", "_law_text_here", "_law_step"]
theorem sc_ltx : FnScope NTx ["_law_stream_here", "_law_texts"] (defScope s_l_text) := ⟨rfl, rfl, rfl, by decide +kernel, rfl, by decide +kernel, by decide +kernel⟩
abbrev sp_ltx : Sp := spR (fun xs : List Str => xs.length ≤ 64 ∧ ∀ x ∈ xs, TxOk x) (fun _ => cStr) (fun xs => cLst (xs.map tyS)) (fun _ => []) (fun _ => cStr) (fun _ => tyEx TxOk tyS)
theorem s_app (a b : Str) : (a ++ b).length = a.length + b.length := Str.length_append a b
theorem f_ltx (T : Tx K mg) : C8.Cal P w K mg base 2 "_law_text" sp_ltx [] :=
  mkCal T.g_law_text T.d_l_text sc_ltx (fun _ _ _ _ _ _ us hl => match us, hl with | [_, _], _ => rfl) (lenR fun _ => rfl) (bodyR fun cdv A outer s H E hr xs B D p q o hpre hg hk fin => by
    obtain ⟨hx1, hx2⟩ := hpre
    refine Sj.setEx (P := fun z : Str => z.length = 94) (Rx := tyS) 2 sc_ltx.nd (Ev.conv Ev.str ?_) fun sg hsg => ?_
    · exact fun v C h => ⟨_, by decide +kernel, h⟩
    refine Sj.setEx 3 sc_ltx.nd (Ev.draw T hr (by decide) 0 (M := 6) (by decide) (Ev.v 0 rfl) rfl (Ev.mn Ev.int (by decide) (by decide))) fun sh hsh => ?_
    refine Sj.if_ (Tv.w (Wv.and (Tv.lt (Ev.v 3 rfl) Ev.int) fun _ => Wv.and1 (Tv.gt (lenL T.f_len (Lv.frame (Ev.v 1 rfl) hg hk)) Ev.int))) (fun h => ?_) (fun h => Sj.go ?_ rfl)
    · have h := h.symm
      rw [Bool.and_eq_true] at h
      have hs2 : sh < 2 := of_decide_eq_true h.1
      have hx0 : 0 < xs.length := by have := of_decide_eq_true h.2; rw [List.length_map] at this; omega
      refine Sj.setEx 4 sc_ltx.nd (ixlEx (xs := xs) (R := tyS) (Lv.frame (Ev.v 1 rfl) hg hk) (Ev.draw T hr (by decide) 0 (M := (xs.length : Int)) (by omega) (Ev.v 0 rfl) rfl (Ev.mn (lenL T.f_len (Lv.frame (Ev.v 1 rfl) hg hk)) (by rw [List.length_map]; omega) (by rw [List.length_map]; omega))) (fun i h => h)) fun old hold => ?_
      have ho : old.length ≤ 10 := hx2 old hold
      refine Sj.setEx 5 sc_ltx.nd (Ev.draw T hr (by decide) 0 (M := 11) (by decide) (Ev.v 0 rfl) rfl (Ev.mn (Ev.add (lenStr T.f_len (Ev.v 4 rfl) (small64 (by omega))) Ev.int) (by omega) (by omega))) fun pl hpl => ?_
      refine Sj.ret (sliceS (P := fun z => z.length ≤ 21) (Q' := TxOk) (Ev.addSE (P := fun z => z.length ≤ 11) (P' := fun z => z.length ≤ 10) (Ev.addSE (P := fun z => z.length ≤ 10) (P' := fun z => z.length = 1) (sliceS (P := (· = old)) (Ev.toP (Ev.v 4 rfl) rfl) Po.none (Po.some (Ev.v 5 rfl)) ?_) (Ev.sign T hr (by decide) 0 hsg (Ev.v 2 rfl) (Ev.v 0 rfl) rfl) ?_) (sliceS (P := (· = old)) (Ev.toP (Ev.v 4 rfl) rfl) (Po.some (Ev.add (Ev.v 5 rfl) (Ev.v 3 rfl))) Po.none ?_) ?_) Po.none (Po.some (Ev.int (i := 10))) ?_) fin (fun v C h => h) (Wc.refl _)
      · intro z e; subst e; exact ⟨small64 (by omega), Nat.le_trans (cutS_le _ _ _) ho⟩
      · intro i j h1 h2; rw [s_app]; exact ⟨small64 (by omega), by omega⟩
      · intro z e; subst e; exact ⟨small64 (by omega), Nat.le_trans (cutS_le _ _ _) ho⟩
      · intro i j h1 h2; rw [s_app]; exact ⟨small64 (by omega), by omega⟩
      · intro z hz; exact ⟨small64 (by omega), cutS_to z 10⟩
    refine Sj.if_ (Tv.eqI (Ev.v 3 rfl) Ev.int) (fun h2 => ?_) (fun h2 => Sj.go ?_ rfl)
    · exact Sj.ret (R' := tyEx TxOk tyS) (Ev.conv Ev.str (fun v C h => ⟨_, by decide +kernel, h⟩)) fin (fun v C h => h) (Wc.refl _)
    have h2 : ¬ sh = 2 := of_decide_eq_false h2.symm
    have hk3 : ∃ m : Int, atI [tyI 2, tyI 4, tyI 10] (sh - 3) = some (tyI m) ∧ 1 ≤ m ∧ m ≤ 10 := by
      have hc : sh = 0 ∨ sh = 1 ∨ sh = 3 ∨ sh = 4 ∨ sh = 5 := by omega
      rcases hc with rfl | rfl | rfl | rfl | rfl
      · exact ⟨2, rfl, by decide, by decide⟩
      · exact ⟨4, rfl, by decide, by decide⟩
      · exact ⟨2, rfl, by decide, by decide⟩
      · exact ⟨4, rfl, by decide, by decide⟩
      · exact ⟨10, rfl, by decide, by decide⟩
    obtain ⟨m3, ha3, hm1, hm2⟩ := hk3
    refine Sj.setEx 6 sc_ltx.nd (Ev.wkX (P' := fun z => 1 ≤ z ∧ z ≤ 10) (Ev.addX (Ev.toX Ev.int) (Ev.draw T hr (by decide) 0 (M := 10) (by decide) (Ev.v 0 rfl) rfl (Ev.mn (ixl (Lv.core (Ev.lst (As.cons Ev.int (As.cons Ev.int (As.cons Ev.int As.nil))))) (Ev.sub (Ev.v 3 rfl) Ev.int) ha3) hm1 hm2))) (fun z hz => by obtain ⟨i, j, rfl, h2, rfl⟩ := hz; omega)) fun ln hln => ?_
    refine Sj.setEx 7 sc_ltx.nd (Ev.addSE (Q' := fun z => z.length = 2) (Ev.sign T hr (by decide) 0 hsg (Ev.v 2 rfl) (Ev.v 0 rfl) rfl) (Ev.sign T hr (by decide) 0 hsg (Ev.v 2 rfl) (Ev.v 0 rfl) rfl) (fun i j h1 h2 => by rw [s_app]; exact ⟨small64 (by omega), by omega⟩)) fun few hfew => ?_
    refine Sj.set 8 sc_ltx.nd (R := tyEx (fun z : Str => z.length ≤ 0) tyS) (Ev.conv Ev.str (fun v C h => ⟨_, by decide +kernel, h⟩)) ?_
    refine Sj.for_ rfl PassesOwn.never (Iv.range T.f_range (Ev.v 6 rfl) (by omega) (by omega)) (fun x => gName 9 sc_ltx.nd) (fun k => [some (tyP p), none, some (tyS sg), some (tyI sh), none, none, none, some (tyS few), some (tyEx (fun z : Str => z.length ≤ k) tyS), none]) (fun _ => [(p, cStr)]) (.k (.d (.k (.k (.d (.d (.d (.k (.k (.d .n)))))))))) (Wc.refl _) (fun B' _ _ _ k y hy => ?_) ?_
    · have hk10 : k < 10 := by have := (List.getElem?_eq_some_iff.mp hy).1; rw [List.length_range] at this; omega
      refine Sj.openS 8 rfl fun z hz => ?_
      refine Sj.if_ (Tv.eqI (Ev.v 3 rfl) Ev.int) (fun h => ?_) (fun h => ?_)
      · refine Sj.set 8 sc_ltx.nd (Ev.addSE (P := (· = z)) (Q' := fun y => y.length ≤ k + 1) (Ev.toP (Ev.v 8 rfl) rfl) (Ev.sign T hr (by decide) 0 hsg (Ev.v 2 rfl) (Ev.v 0 rfl) rfl) ?_) (Sj.go (Sj.at (.k (.d (.k (.k (.d (.d (.d (.k (.k (.d .n)))))))))) (Wc.refl _)) rfl)
        intro i j h1 h2; rw [s_app]; subst h1; exact ⟨small64 (by omega), by omega⟩
      · refine Sj.set 8 sc_ltx.nd (Ev.addSE (P := (· = z)) (Q' := fun y => y.length ≤ k + 1) (P' := fun z => z.length = 1) (Ev.toP (Ev.v 8 rfl) rfl) (ixsP (PZ := (· = few)) (Ev.toP (Ev.v 7 rfl) rfl) (Ev.draw T hr (by decide) 0 (M := 2) (by decide) (Ev.v 0 rfl) rfl (Ev.mn Ev.int (by decide) (by decide))) ?_ ?_) ?_) (Sj.go (Sj.at (.k (.d (.k (.k (.d (.d (.d (.k (.k (.d .n)))))))))) (Wc.refl _)) rfl)
        · intro z e; rw [e, hfew]; exact small64 (by decide)
        · intro z i e h; rw [e, hfew]; exact h
        · intro i j h1 h2; rw [s_app]; subst h1; exact ⟨small64 (by omega), by omega⟩
    · refine Sj.openS 8 rfl fun z hz => ?_
      refine Sj.ret (Ev.toP (P := TxOk) (Rx := tyS) (z := z) (Ev.v 8 rfl) ?_) fin (fun v C h => h) (Wc.refl _)
      rw [List.length_range] at hz
      show z.length ≤ 10
      omega)
/-! pool -/
structure PlOk (lo : Int) (xs : List Str) : Prop where
  nd : xs.Nodup
  len : xs.length ≤ 8
  tx : ∀ x ∈ xs, TxOk x
  ne : 1 ≤ lo → xs ≠ []
abbrev NPl : List Str := ["_law_stream_here", "_law_many", "_law_texts", "_law_step", "_law_text_here"]
theorem sc_lpl : FnScope NPl ["_law_stream_here", "_law_many"] (defScope s_l_pool) := ⟨rfl, rfl, rfl, by decide +kernel, rfl, by decide +kernel, by decide +kernel⟩
abbrev sp_lpl : Sp := spW (fun lo : Int => 0 ≤ lo) (fun _ => cStr) (fun lo => [tyEx (fun n : Int => lo ≤ n ∧ n ≤ 8) tyI]) (fun _ => cStr) (fun lo => tyEx (PlOk lo) tyLs)
theorem f_lpl (T : Tx K mg) : C8.Cal P w K mg base 3 "_law_pool" sp_lpl [] :=
  mkCal T.g_law_pool T.d_l_pool sc_lpl (fun _ _ _ _ _ _ us hl => match us, hl with | [_, _], _ => rfl) (lenW fun _ => rfl) (bodyW fun cdv A outer s H E hr lo B D p h0 fin _ => by
    have h0 : 0 ≤ lo := h0
    refine Sj.openS 1 rfl fun n hn => ?_
    refine Sj.newL 2 sc_lpl.nd fun q => ?_
    refine Sj.forE (ι := List Str) rfl PassesOwn.never (Iv.range T.f_range (Ev.v 1 rfl) (by omega) (by omega)) (fun x => gName 3 sc_lpl.nd) (fun k xs => xs.Nodup ∧ xs.length ≤ k ∧ (∀ x ∈ xs, TxOk x) ∧ (1 ≤ k → xs ≠ []))
      (fun k xs => [some (tyP p), none, some (tyP q), none, none]) (fun k xs => [(p, cStr), (q, cLst (xs.map tyS))]) [] ⟨List.nodup_nil, Nat.le_refl _, fun x hx => absurd hx List.not_mem_nil, fun h => by omega⟩ (.k (.d (.k (.d (.d .n))))) (Wc.refl _) (fun B' _ k y hy xs hxs => ?_) (fun xs hxs => ?_)
    · obtain ⟨i1, i2, i3, i4⟩ := hxs
      have hk8 : k < 8 := by have := (List.getElem?_eq_some_iff.mp hy).1; rw [List.length_range] at this; omega
      refine Sj.setEx 4 sc_lpl.nd (Ev.callR 0 1 (f_ltx T) hr (by decide) xs rfl rfl (by decide) ⟨by omega, i3⟩ (As.cons (Ev.v 0 rfl) (As.cons (Ev.v 2 rfl) As.nil))) fun z hz => ?_
      refine Sj.if_ (TnotL (l := xs) (Ev.v 4 rfl) (Lv.own 1 (Ev.v 2 rfl) rfl)) (fun h => ?_) (fun h => ?_)
      · have hnot : z ∉ xs := fun m => by rw [decide_eq_true m] at h; cases h
        refine Sj.append 1 (Ev.v 2 rfl) rfl (Ev.v 4 rfl) (by rw [List.length_map]; exact small1000 (by omega)) (Sj.go (Sj.atX (xs ++ [z]) ⟨?_, ?_, ?_, ?_⟩ (.k (.d (.k (.d (.d .n))))) (.k (.c (fun o C h => by rw [List.map_append]; exact h) .n))) rfl)
        · rw [List.nodup_append]
          exact ⟨i1, by simp, fun a ha b hb e => hnot (by rw [← (show b = z by simpa using hb), ← e]; exact ha)⟩
        · rw [List.length_append]; show xs.length + 1 ≤ k + 1; omega
        · intro x hx
          rcases List.mem_append.mp hx with hx | hx
          · exact i3 x hx
          · rw [List.mem_singleton.mp hx]; exact hz
        · intro _ e; simp at e
      · have hm : z ∈ xs := by
          by_cases m : z ∈ xs
          · exact m
          · rw [decide_eq_false m] at h; cases h
        refine Sj.go (Sj.nil fun σ C H S => ?_) rfl
        exact ⟨xs, ⟨i1, by omega, i3, fun _ e => by rw [e] at hm; cases hm⟩, C, S.ws (.k (.d (.k (.d (.d .n))))) (Wc.refl _)⟩
    · obtain ⟨i1, i2, i3, i4⟩ := hxs
      rw [List.length_range] at i2 i4
      refine Sj.freeze 1 2 rfl rfl ?_
      exact Sj.ret (Ev.toP (P := PlOk lo) (Rx := tyLs) (z := xs) (Ev.v 2 rfl) ⟨i1, by omega, i3, fun h => i4 (by omega)⟩) fin (fun v C h => h) (Wc.refl _))
end
end MF
set_option maxHeartbeats 4000000
/-! the law's defs: case, entries. -/
namespace MJ
open PySem PySem.Spec L2
open PyProof.Rows hiding St
section
variable {X : Cx} {B : Bs} {Γ Γ' : Gm} {W W' : Wl} {a b c e o tg iter elt value : Expr} {es tgs ifs : List Expr} {pos pos' apos p spos : Pos} {R Ra Rb T : Ty} {Ts Us : List Ty} {K : Con} {x f m : Str} {i j : Int} {scope : Scope} {α : Type} {fs : List (Str × Ty)}
variable {st : Stmt} {rest A E body : List Stmt} {D : Ends}
theorem Ev.addLX {P : α → Prop} {Uf : α → List Ty} (ha : Ev X B Γ W a (tyLst Ts)) (hb : Ev X B Γ W b (tyEx P fun l => tyLst (Uf l))) (h : ∀ l, P l → Ts.length + (Uf l).length ≤ sizeLine) : Ev X B Γ W (.BinOp a .Add b pos) (tyEx P fun l => tyLst (Ts ++ Uf l)) :=
  Ev.op op_cat ha hb fun x y C H Q E r1 r2 k => by
    obtain ⟨l, pl, r2⟩ := r2
    obtain ⟨p, vs, rfl, _, hp, al⟩ := getL E r1
    obtain ⟨q, ws, rfl, _, hq, al'⟩ := getL E r2
    exact ⟨p, q, vs, ws, rfl, rfl, hp, hq, by rw [← Paired.length al, ← Paired.length al']; exact h l pl, newObj (K := cLst (Ts ++ Uf l)) E (fun v C' H' s E' r => k v C' H' s E' ⟨l, pl, r⟩) ⟨_, rfl, Paired.app al al'⟩⟩
theorem Sj.dputX {P : α → Prop} {Rx : α → Ty} {q : Addr} (jw : Nat) (hu : X.A.units + 1 < cLine) (hv : Ev X B Γ W value (tyEx P Rx)) (ho : Ev X B Γ W o (tyP q)) (hj : W[jw]? = some (q, cD fs)) (hi : Ev X B Γ W e (tyS x)) (hl : fs.length < sizeLine) (hr : ∀ z, P z → Sj X B Γ (W.set jw (q, cD (MJ.dput fs x (Rx z)))) rest D)
    (hs : swapsWith value (some (.Subscript o e pos')) spos.line X.env = pure false := by rfl) : Sj X B Γ W (.Assign [.Subscript o e pos'] value spos :: rest) D := fun σ C H S =>
  cons_ (ps_dput hu pe_s pe_s pe_s hs) (hv σ C H S _ fun v C1 H1 s1 E1 ⟨z, pz, r1⟩ => ho σ C1 H1 (S.go s1 E1) _ fun w C2 H2 s2 E2 r2 => hi σ C2 H2 (S.go (s1.trans s2) E2) _ fun y C3 H3 s3 E3 r3 => by
    cases r2; cases r3
    obtain ⟨o1, h1, _, ks, rfl, al⟩ := E3.look hj
    exact ⟨q, _, rfl, DPut.k (k := Sum.inr x) h1 (by rw [← kvs_len al]; exact hl), hr z pz σ C3 _ ⟨S.sl.mono (s1.trans (s2.trans s3)), E3.put hj trivial ⟨_, rfl, kvs_put al x ((Rx z).mono (s2.trans s3) r1)⟩⟩⟩)
theorem Tv.gtX {P : Int → Prop} (ha : Ev X B Γ W a (tyEx P tyI)) (hb : Ev X B Γ W b (tyI j)) : Tv X B Γ W (.Compare a [.Gt] [b] pos) (fun _ => True) := fun σ C H S Q k =>
  toT (pt_cmp (pc_gt pe_s pe_s)) (ha σ C H S _ fun x C1 H1 s1 E1 r1 => hb σ C1 H1 (S.go s1 E1) _ fun y C2 H2 s2 E2 r2 => by
    obtain ⟨i, p, r1⟩ := r1
    exact ⟨i, j, r1, r2, _, rfl, k _ C2 H2 (s1.trans s2) E2 trivial⟩)
theorem Tv.eqX2 {P : Int → Prop} (ha : Ev X B Γ W a (tyEx P tyI)) (hb : Ev X B Γ W b (tyI j)) : Tv X B Γ W (.Compare a [.Eq] [b] pos) (fun _ => True) := fun σ C H S Q k =>
  toT (pt_cmp (pc_eqI pe_s pe_s)) (ha σ C H S _ fun x C1 H1 s1 E1 r1 => hb σ C1 H1 (S.go s1 E1) _ fun y C2 H2 s2 E2 r2 => by
    obtain ⟨i, p, r1⟩ := r1
    exact ⟨i, j, r1, r2, _, rfl, k _ C2 H2 (s1.trans s2) E2 trivial⟩)
theorem dput_last {β : Type} {m : List (Str × β)} {x : Str} {u v : β} (h : x ∉ m.map (·.1)) : dput (m ++ [(x, u)]) x v = m ++ [(x, v)] := by
  unfold dput
  rw [if_pos (by simp), List.map_append]
  have : m.map (fun p => if p.1 = x then (p.1, v) else p) = m := by
    conv => rhs; rw [← List.map_id m]
    refine List.map_congr_left fun q hq => ?_
    rw [if_neg (fun z => h (by rw [← z]; exact List.mem_map.mpr ⟨q, hq, rfl⟩))]; rfl
  rw [this]; simp
end
end MJ
namespace MF
open PySem PySem.Spec L2 MT MJ
open PyProof.Rows hiding St
section
variable {P : Program} {w : World} {K : PySem.W.Frag} {mg : Str → Option Value} {base : Heap}
abbrev Cs := List Str × List Str × Chs
structure RvOk (os : List Str) (r : Str × List Str) : Prop where
  nd : r.2.Nodup
  own : r.1 ∈ r.2
  sub : ∀ x ∈ r.2, x ∈ os
structure CsOk (c : Cs) : Prop where
  pn : c.1.Nodup
  pl : c.1.length ≤ 8
  p1 : c.1 ≠ []
  on : c.2.1.Nodup
  ol : c.2.1.length ≤ 16
  po : ∀ x ∈ c.1, x ∈ c.2.1
  rk : c.2.2.map (·.1) = c.1
  rv : ∀ r ∈ c.2.2, RvOk c.2.1 r
abbrev tyCs (c : Cs) : Ty := tyTup [tyLs c.1, tyLs c.2.1, tyRd c.2.2]
abbrev NCs : List Str := ["_law_script", "_law_stream_here", "_law_pool_here", "_law_others", "_law_text_here", "_law_readable", "_law_other"]
theorem sc_lcs : FnScope NCs ["_law_script"] (defScope s_l_case) := ⟨rfl, rfl, rfl, by decide +kernel, rfl, by decide +kernel, by decide +kernel⟩
theorem two_of {X : Cx} {B : Bs} {Γ : Gm} {W : Wl} {e1 : Expr} {pos pos2 : Pos} {x y M : Int} {b c : Expr} (h1 : Ev X B Γ W e1 (tyDr 2)) (hb : Ev X B Γ W b (tyI x)) (hc : Ev X B Γ W c (tyI y)) (hx : 1 ≤ x ∧ x ≤ M) (hy : 1 ≤ y ∧ y ≤ M)
    (hl1 : starEach [b, c] X.env = (false, eval b X.env) :: starEach [c] X.env := by rfl) (hl2 : starEach [c] X.env = (false, eval c X.env) :: starEach [] X.env := by rfl) (hs : PlainIx e1 := by exact fun _ _ => rfl) : Ev X B Γ W (.Subscript (.List [b, c] pos) e1 pos2) (tyMn M) :=
  Ev.wkX (ixlEx (xs := [x, y]) (R := tyI) (Lv.core (Ev.lst (As.cons hb (As.cons hc As.nil hl2) hl1))) h1 (fun i h => h) hs) (fun z hz => by
    rcases List.mem_cons.mp hz with rfl | hz
    · exact hx
    · rw [List.mem_singleton.mp hz]; exact hy)
abbrev sp_lcs (K : PySem.W.Frag) : Sp := spP (fun xs : List Int => xs.length < 2 ^ 62) (fun xs => [tyScr K xs]) (fun _ => tyEx CsOk tyCs)
theorem f_lcs (T : Tx K mg) : C8.Cal P w K mg base 4 "_law_case" (sp_lcs K) [] :=
  mkCal T.g_law_case T.d_l_case sc_lcs (fun _ _ _ _ _ _ us hl => match us, hl with | [_], _ => rfl) (lenP fun _ => rfl) (bodyP fun cdv A outer s H E hr xs B D hp fin _ => by
    have hu := hu_of hr
    refine Sj.setO 1 sc_lcs.nd (f_lst T) hr (by decide) (xs, (0 : Int)) ⟨by show (0 : Int) ≤ 0; decide, by show (0 : Int) ≤ 10; decide, hp⟩ (As.cons (Ev.v 0 rfl) (As.cons Ev.int As.nil)) fun p => ?_
    refine Sj.setEx 2 sc_lcs.nd (Ev.callW 0 (f_lpl T) hr (by decide) (1 : Int) rfl (by decide) (As.cons (Ev.v 1 rfl) (As.cons (Ev.wkX (P' := fun n => 1 ≤ n ∧ n ≤ 8) (Ev.addX (Ev.toX Ev.int) (Ev.draw T hr (by decide) 0 (M := 8) (by decide) (Ev.v 1 rfl) rfl (two_of (Ev.draw T hr (by decide) 0 (M := 2) (by decide) (Ev.v 1 rfl) rfl (Ev.mn Ev.int (by decide) (by decide))) Ev.int Ev.int (by decide) (by decide)))) (fun z hz => by obtain ⟨i, j, rfl, h2, rfl⟩ := hz; omega)) As.nil))) fun pool hpool => ?_
    have hpl := hpool.len
    refine Sj.listO (iy := 3) sc_lcs.nd T.f_list (Lv.core (Ev.v 2 rfl)) fun z => ?_
    refine Sj.forX (ι := List Str) (P := PlOk 0) (Rx := tyS) rfl PassesOwn.never (IvX.list (Ev.callW 0 (f_lpl T) hr (by decide) (0 : Int) rfl (by decide) (As.cons (Ev.v 1 rfl) (As.cons (Ev.wkX (P' := fun n => 0 ≤ n ∧ n ≤ 8) (Ev.draw T hr (by decide) 0 (M := 9) (by decide) (Ev.v 1 rfl) rfl (two_of (Ev.draw T hr (by decide) 0 (M := 2) (by decide) (Ev.v 1 rfl) rfl (Ev.mn Ev.int (by decide) (by decide))) Ev.int Ev.int (by decide) (by decide))) (fun z hz => by omega)) As.nil)))) (fun x => gName 4 sc_lcs.nd)
      (fun xs n os => os.Nodup ∧ os.length ≤ 8 + n ∧ ∀ x ∈ pool, x ∈ os) (fun n os => [some (tyScr K xs), some (tyP p), some (tyLs pool), some (tyP z), none, none, none]) (fun n os => [(p, cStr), (z, cLst (os.map tyS))]) pool (fun _ _ => ⟨hpool.nd, by omega, fun x h => h⟩) (.k (.k (.k (.k (.d (.d (.d .n))))))) (Wc.refl _) (fun B' _ ys n x hys hx os hos => ?_) (fun ys hys os hos => ?_)
    · obtain ⟨i1, i2, i3⟩ := hos
      have hn : n < ys.length := (List.getElem?_eq_some_iff.mp hx).1
      have hyl := hys.len
      refine Sj.if_ (TnotL (l := os) (Ev.v 4 rfl) (Lv.own 1 (Ev.v 3 rfl) rfl)) (fun h => ?_) (fun h => ?_)
      · have hnot : x ∉ os := fun m => by rw [decide_eq_true m] at h; cases h
        refine Sj.append 1 (Ev.v 3 rfl) rfl (Ev.v 4 rfl) (by rw [List.length_map]; exact small1000 (by omega)) (Sj.go (Sj.atX (os ++ [x]) ⟨?_, ?_, ?_⟩ (.k (.k (.k (.k (.d (.d (.d .n))))))) (.k (.c (fun o C h => by rw [List.map_append]; exact h) .n))) rfl)
        · rw [List.nodup_append]
          exact ⟨i1, by simp, fun a ha b hb e => hnot (by rw [← (show b = x by simpa using hb), ← e]; exact ha)⟩
        · rw [List.length_append]; show os.length + 1 ≤ 8 + (n + 1); omega
        · intro y hy; exact List.mem_append_left _ (i3 y hy)
      · refine Sj.go (Sj.nil fun σ C H S => ?_) rfl
        exact ⟨os, ⟨i1, by omega, i3⟩, C, S.ws (.k (.k (.k (.k (.d (.d (.d .n))))))) (Wc.refl _)⟩
    obtain ⟨o1, o2, o3⟩ := hos
    have hyl := hys.len
    refine Sj.freeze 1 3 rfl rfl ?_
    refine Sj.setO 1 sc_lcs.nd (f_lst T) hr (by decide) (xs, (1 : Int)) ⟨by show (0 : Int) ≤ 1; decide, by show (1 : Int) ≤ 10; decide, hp⟩ (As.cons (Ev.v 0 rfl) (As.cons Ev.int As.nil)) fun p2 => ?_
    refine Sj.newD 5 sc_lcs.nd fun q => ?_
    refine Sj.forE (ι := Chs) (xs := pool) (Rx := tyS) rfl PassesOwn.never (Iv.list (Ev.v 2 rfl)) (fun x => gName 4 sc_lcs.nd)
      (fun n ch => ch.map (·.1) = pool.take n ∧ ∀ r ∈ ch, RvOk os r) (fun n ch => [some (tyScr K xs), some (tyP p2), some (tyLs pool), some (tyLs os), none, some (tyP q), none]) (fun n ch => [(p, cStr), (p2, cStr), (q, cD (vmap tyLs ch))]) [] ⟨rfl, fun r h => absurd h List.not_mem_nil⟩ (.k (.k (.k (.k (.d (.k (.d .n))))))) (Wc.refl _) (fun B' _ n t hn ch hch => ?_) (fun ch hch => ?_)
    · obtain ⟨c1, c2⟩ := hch
      have htp : t ∈ pool := List.mem_of_getElem? hn
      have hto := o3 t htp
      have htk : pool.take (n + 1) = pool.take n ++ [t] := by rw [List.take_succ, hn]; rfl
      have hnew : t ∉ ch.map (·.1) := by
        rw [c1]
        intro h
        have nd := hpool.nd
        rw [← List.take_append_drop (n + 1) pool, htk] at nd
        exact (List.nodup_append.mp (List.nodup_append.mp nd).1).2.2 _ h t (by simp) rfl
      have hnew2 : t ∉ (vmap tyLs ch).map (·.1) := by rw [vmap_keys]; exact hnew
      have hcl : ch.length ≤ 8 := by have := congrArg List.length c1; rw [List.length_map, List.length_take] at this; omega
      refine Sj.dput 2 hu (T := tyLs [t]) (Ev.lst (As.cons (Ev.v 4 rfl) As.nil)) (Ev.v 5 rfl) rfl (Ev.v 4 rfl) (by rw [List.length_map]; exact small1000 (by omega)) ?_
      rw [dput_new hnew2]
      refine Sj.if_ (Tv.gtX (Ev.draw T hr (by decide) 1 (M := 4) (by decide) (Ev.v 1 rfl) rfl (Ev.mn Ev.int (by decide) (by decide))) Ev.int) (fun h => ?_) (fun h => ?_)
      · refine Sj.dputX (P := fun l : List Str => ∃ ys, PtOk os ys ∧ Flt (fun o b => b = !decide (o = t)) ys l) (Rx := fun l : List Str => tyLs (t :: l)) 2 hu (Ev.addLX (Ts := [tyS t]) (Uf := fun l : List Str => l.map tyS) (Ev.lst (As.cons (Ev.v 4 rfl) As.nil)) (Ev.lcX (PX := PtOk os) (Rx := tyS) (P := fun o b => b = !decide (o = t)) (Ro := tyS) [("_law_other", 6)] rfl sc_lcs.nd (IvX.list (Ev.callW 1 (f_lpt T) hr (by decide) os rfl (by show os.length ≤ 64; omega) (As.cons (Ev.v 1 rfl) (As.cons (Ev.v 3 rfl) As.nil)))) (blkOk_by (N := NCs) (sc := defScope s_l_case) (by decide +kernel)) (fun x s0 H0 Cc cl fp => gName 6 sc_lcs.nd) (by decide) (fun ys hys => small1000 (by have := hys.2.1; omega))
          (fun ys hys o ho s0 H0 Cc cl fp D K => Qv.one (Tv.neS (Ev.v 6 rfl) (Ev.v 4 rfl))) (fun ys hys o ho _ s0 H0 Cc cl fp D K => Ev.v 6 rfl)) (fun l hl => by
            obtain ⟨ys, hys, fl⟩ := hl
            have h1 := fl.len
            have h2 := hys.2.1
            rw [List.length_map]
            exact small64 (by show 1 + l.length < 64; omega))) (Ev.v 5 rfl) rfl (Ev.v 4 rfl) (by rw [List.length_append, List.length_map]; exact small1000 (by show ch.length + 1 ≤ 1000; omega)) fun l hl => ?_
        obtain ⟨ys, hys, fl⟩ := hl
        rw [dput_last hnew2]
        have el := fl.eq
        refine Sj.go (Sj.atX (ch ++ [(t, t :: l)]) ⟨?_, ?_⟩ (.k (.k (.k (.k (.d (.k (.d .n))))))) (.k (.k (.c (fun o C h => by unfold vmap; rw [List.map_append]; exact h) .n)))) rfl
        · rw [List.map_append, c1, htk]; rfl
        · intro r hr'
          rcases List.mem_append.mp hr' with hr' | hr'
          · exact c2 r hr'
          · rw [List.mem_singleton.mp hr']
            refine ⟨?_, List.mem_cons_self, fun x hx => ?_⟩
            · rw [List.nodup_cons]
              refine ⟨fun hm => ?_, fl.sub.nodup (hys.2.2 o1)⟩
              rw [el] at hm
              have := (List.mem_filter.mp hm).2
              simp at this
            · rcases List.mem_cons.mp hx with rfl | hx
              · exact hto
              · exact hys.1 x (fl.sub.subset hx)
      · refine Sj.go (Sj.atX (ch ++ [(t, [t])]) ⟨?_, ?_⟩ (.k (.k (.k (.k (.d (.k (.d .n))))))) (.k (.k (.c (fun o C h => by unfold vmap; rw [List.map_append]; exact h) .n)))) rfl
        · rw [List.map_append, c1, htk]; rfl
        · intro r hr'
          rcases List.mem_append.mp hr' with hr' | hr'
          · exact c2 r hr'
          · rw [List.mem_singleton.mp hr']
            exact ⟨by simp, List.mem_cons_self, fun x hx => by rw [List.mem_singleton.mp hx]; exact hto⟩
    · obtain ⟨c1, c2⟩ := hch
      rw [List.take_length] at c1
      refine Sj.freeze 2 5 rfl rfl ?_
      refine Sj.ret (Ev.toP (P := CsOk) (Rx := tyCs) (z := (pool, os, ch)) (Ev.tup (As.cons (Ev.v 2 rfl) (As.cons (Ev.v 3 rfl) (As.cons (Ev.v 5 rfl) As.nil)))) ⟨hpool.nd, hpl, hpool.ne (by decide), o1, by show os.length ≤ 16; omega, o3, c1, c2⟩) fin (fun v C h => h) .d)
end
end MF
set_option maxHeartbeats 4000000
/-! the law's defs: entries. -/
namespace MF
open PySem PySem.Spec L2 MT MJ
open PyProof.Rows hiding St
section
variable {P : Program} {w : World} {K : PySem.W.Frag} {mg : Str → Option Value} {base : Heap}
structure AcOk (os l : List Str) : Prop where
  nd : l.Nodup
  sub : ∀ x ∈ l, x ∈ os
abbrev W40 : Int := 10000000000000000000000000000000000000000
structure EnOk (c : Cs) (e : En) : Prop where
  w1 : 1 ≤ e.1
  w2 : e.1 < W40
  tx : e.2.1 ∈ c.1
  ac : AcOk c.2.1 e.2.2
structure EsOk (c : Cs) (es : List En) : Prop where
  ne : es ≠ []
  len : es.length ≤ 12
  each : ∀ e ∈ es, EnOk c e
theorem nd_sub_len {l m : List Str} (h : l.Nodup) (h2 : ∀ x ∈ l, x ∈ m) : l.length ≤ m.length := MR.len_sub h h2
theorem cut_from {α : Type} (xs : List α) (k : Nat) : cutA xs (some (k : Int)) none = xs.drop k := by
  unfold cutA
  rw [HT.sIx_nat, HT.sIx_none, List.take_of_length_le (by rw [List.length_drop]; omega)]
  by_cases h : k ≤ xs.length
  · rw [Nat.min_eq_left h]
  · rw [Nat.min_eq_right (by omega), List.drop_length, List.drop_of_length_le (by omega)]
theorem cut_to {α : Type} (xs : List α) (k : Nat) : cutA xs none (some (k : Int)) = xs.take k := by
  unfold cutA
  rw [HT.sIx_none, HT.sIx_nat, List.drop_zero, Nat.sub_zero]
  by_cases h : k ≤ xs.length
  · rw [Nat.min_eq_left h]
  · rw [Nat.min_eq_right (by omega), List.take_length, List.take_of_length_le (by omega)]
theorem rot_ok {os l : List Str} {k : Nat} (h : AcOk os l) : AcOk os (l.drop (k + 1) ++ l.take k) := by
  have hs : (l.take k ++ l.drop (k + 1)).Sublist l := by
    conv => rhs; rw [← List.take_append_drop k l]
    refine (List.Sublist.refl _).append ?_
    rw [show k + 1 = k + 1 from rfl, ← List.drop_drop]
    exact List.drop_sublist 1 _
  refine ⟨?_, fun x hx => ?_⟩
  · exact (List.perm_append_comm.nodup_iff).mp (hs.nodup h.nd)
  · refine h.sub x (hs.subset ?_)
    rw [List.mem_append] at hx ⊢
    exact hx.symm
abbrev NEn : List Str := ["_law_stream_here", "_law_pool_here", "_law_others", "_law_readable", "_law_top", "_law_entries_here", "_law_step", "_law_weight", "_law_text_here", "_law_shape", "_law_accused", "_law_place"]
theorem sc_len : FnScope NEn ["_law_stream_here", "_law_pool_here", "_law_others", "_law_readable"] (defScope s_l_entries) := ⟨rfl, rfl, rfl, by decide +kernel, rfl, by decide +kernel, by decide +kernel⟩
abbrev sp_len : Sp := spW CsOk (fun _ => cStr) (fun c => [tyLs c.1, tyLs c.2.1, tyRd c.2.2]) (fun _ => cStr) (fun c => tyEx (EsOk c) (tyEns true))
abbrev tyWt : Ty := tyEx (fun z : Int => 1 ≤ z ∧ z < W40) tyI
theorem chG_ok {c : Cs} (h : CsOk c) {t : Str} (ht : t ∈ c.1) : RvOk c.2.1 (t, chG c.2.2 t) := h.rv _ (dget_some_mem (chG_of (by rw [h.rk]; exact ht)))
theorem f_len (T : Tx K mg) : C8.Cal P w K mg base 3 "_law_entries" sp_len [] :=
  mkCal T.g_law_entries T.d_l_entries sc_len (fun _ _ _ _ _ _ us hl => match us, hl with | [_, _, _, _], _ => rfl) (lenW fun _ => rfl) (bodyW fun cdv A outer s H E hr c B D p hc fin _ => by
    obtain ⟨pool, os, ch⟩ := c
    have hu := hu_of hr
    have hpl : pool.length ≤ 8 := hc.pl
    have hol : os.length ≤ 16 := hc.ol
    have hp0 : 0 < pool.length := List.length_pos_iff.mpr hc.p1
    refine Sj.setEx (P := fun z : Int => z = 5 ∨ z = 1000 ∨ z = 0) (Rx := tyI) 4 sc_len.nd (Ev.wkX (ixlEx (xs := [5, 5, 5, 5, 1000, 1000, 1000, 0]) (R := tyI) (Lv.core (Ev.lst (As.cons Ev.int (As.cons Ev.int (As.cons Ev.int (As.cons Ev.int (As.cons Ev.int (As.cons Ev.int (As.cons Ev.int (As.cons Ev.int As.nil)))))))))) (Ev.draw T hr (by decide) 0 (M := 8) (by decide) (Ev.v 0 rfl) rfl (Ev.mn Ev.int (by decide) (by decide))) (fun i h => h)) (fun z hz => by simp at hz; omega)) fun top htop => ?_
    refine Sj.newL 5 sc_len.nd fun q => ?_
    refine Sj.forX (ι := List En) (P := fun xs => ∃ n : Int, (1 ≤ n ∧ n ≤ 12) ∧ xs = List.range n.toNat) (Rx := fun k : Nat => tyI (k : Int)) rfl PassesOwn.never (IvX.range T.f_range (Ev.wkX (P' := fun n => 1 ≤ n ∧ n ≤ 12) (Ev.addX (Ev.toX Ev.int) (Ev.draw T hr (by decide) 0 (M := 12) (by decide) (Ev.v 0 rfl) rfl (Ev.mn Ev.int (by decide) (by decide)))) (fun z hz => by obtain ⟨i, j, rfl, h2, rfl⟩ := hz; omega)) (fun n hn => by omega)) (fun x => gName 6 sc_len.nd)
      (fun _ n es => es.length = n ∧ ∀ e ∈ es, EnOk (pool, os, ch) e) (fun n es => [some (tyP p), some (tyLs pool), some (tyLs os), some (tyRd ch), some (tyI top), some (tyP q), none, none, none, none, none, none]) (fun n es => [(p, cStr), (q, cLst (es.map (enLw true)))]) [] (fun _ _ => ⟨rfl, fun e h => absurd h List.not_mem_nil⟩) (.k (.k (.k (.k (.k (.k (.d (.d (.d (.d (.d (.d .n)))))))))))) (Wc.refl _) (fun B' _ ks n k hks hn es hes => ?_) (fun ks hks es hes => ?_)
    · obtain ⟨e1, e2⟩ := hes
      have hn12 : n < 12 := by
        obtain ⟨m, hm, rfl⟩ := hks
        have := (List.getElem?_eq_some_iff.mp hn).1
        rw [List.length_range] at this; omega
      refine Sj.set (R := tyWt) 7 sc_len.nd (Ev.wkX (Ev.addX (Ev.toX Ev.int) (Ev.draw T hr (by decide) 0 (M := 1000) (by decide) (Ev.v 0 rfl) rfl (Ev.mn (max2 rfl T.f_max Ev.int (Ev.v 4 rfl)) (by omega) (by omega)))) (fun z hz => by obtain ⟨i, j, rfl, h2, rfl⟩ := hz; unfold W40; omega)) ?_
      refine Sj.two (Γe := [some (tyP p), some (tyLs pool), some (tyLs os), some (tyRd ch), some (tyI top), some (tyP q), some (tyI (k : Int)), some tyWt, none, none, none, none]) (We := [(p, cStr), (q, cLst (es.map (enLw true)))]) ?_ fun hre => ?_
      · refine Sj.setEx 8 sc_len.nd (ixlEx (xs := pool) (R := tyS) (Lv.core (Ev.v 1 rfl)) (Ev.draw T hr (by decide) 0 (M := (pool.length : Int)) (by omega) (Ev.v 0 rfl) rfl (Ev.mn (lenL T.f_len (Lv.core (Ev.v 1 rfl))) (by rw [List.length_map]; omega) (by rw [List.length_map]; omega))) (fun i h => h)) fun t ht => ?_
        have hrv := chG_ok hc (show t ∈ pool from ht)
        have hcl : (chG ch t).length ≤ 16 := Nat.le_trans (nd_sub_len hrv.nd hrv.sub) hol
        have hc0 : 0 < (chG ch t).length := List.length_pos_of_mem hrv.own
        refine Sj.setEx 9 sc_len.nd (Ev.draw T hr (by decide) 0 (M := 4) (by decide) (Ev.v 0 rfl) rfl (Ev.mn Ev.int (by decide) (by decide))) fun sh hsh => ?_
        refine Sj.set 10 sc_len.nd (dgetE (Lv.core (Ev.v 3 rfl)) (Ev.v 8 rfl) (rd_get (show t ∈ ch.map (·.1) by have := hc.rk; rw [show ch.map (·.1) = pool from this]; exact ht)) hu) ?_
        refine Sj.two (Γe := [some (tyP p), some (tyLs pool), some (tyLs os), some (tyRd ch), some (tyI top), some (tyP q), some (tyI (k : Int)), some tyWt, some (tyS t), some (tyI sh), some (tyEx (AcOk os) tyLs), none]) (We := [(p, cStr), (q, cLst (es.map (enLw true)))]) ?_ fun hre2 => ?_
        · refine Sj.two (Γe := [some (tyP p), some (tyLs pool), some (tyLs os), some (tyRd ch), some (tyI top), some (tyP q), some (tyI (k : Int)), some tyWt, some (tyS t), some (tyI sh), some (tyEx (AcOk os) tyLs), none]) (We := [(p, cStr), (q, cLst (es.map (enLw true)))]) ?_ fun hre3 => ?_
          · refine Sj.openS 7 rfl fun wt hwt => ?_
            refine Sj.openS 10 rfl fun l hl => ?_
            refine Sj.append 1 (Ev.v 5 rfl) rfl (T := enLw true (wt, t, l)) (Ev.tup (As.cons (Ev.v 7 rfl) (As.cons (Ev.v 8 rfl) (As.cons (Ev.v 10 rfl) As.nil)))) (by rw [List.length_map]; exact small1000 (by omega)) (Sj.atX (es ++ [(wt, t, l)]) ⟨?_, ?_⟩ (.k (.k (.k (.k (.k (.k (.d (.d (.d (.d (.d (.d .n)))))))))))) (.k (.c (fun o C h => by rw [List.map_append]; exact h) .n)))
            · rw [List.length_append, e1]; rfl
            · intro e he
              rcases List.mem_append.mp he with he | he
              · exact e2 e he
              · rw [List.mem_singleton.mp he]; exact ⟨hwt.1, hwt.2, ht, hl⟩
          · refine Sj.if_ (Tv.gt (Ev.v 9 rfl) Ev.int) (fun _ => ?_) (fun _ => Sj.go hre3 rfl)
            exact Sj.set (R := tyEx (AcOk os) tyLs) 10 sc_len.nd (Ev.wkP (Ev.callW 0 (f_lpt T) hr (by decide) os rfl (by show os.length ≤ 64; omega) (As.cons (Ev.v 0 rfl) (As.cons (Ev.v 2 rfl) As.nil))) fun l hl => ⟨hl.2.2 hc.on, hl.1⟩) (Sj.go hre3 rfl)
        · refine Sj.if_ (Tv.eqI (Ev.v 9 rfl) Ev.int) (fun _ => ?_) (fun _ => Sj.go (fun σ C H S => hre2 σ C H (S.ws (.k (.k (.k (.k (.k (.k (.k (.k (.k (.k (.c (fun v C h => ⟨chG ch t, ⟨hrv.nd, hrv.sub⟩, h⟩) (.k .n)))))))))))) (Wc.refl _))) rfl)
          refine Sj.setEx 11 sc_len.nd (Ev.draw T hr (by decide) 0 (M := ((chG ch t).length : Int)) (by omega) (Ev.v 0 rfl) rfl (Ev.mn (lenL T.f_len (Lv.core (Ev.v 10 rfl))) (by rw [List.length_map]; omega) (by rw [List.length_map]; omega))) fun pl hpl => ?_
          obtain ⟨m, rfl⟩ : ∃ m : Nat, pl = m := ⟨pl.toNat, by omega⟩
          refine Sj.set 10 sc_len.nd (Ev.addL (slicel (Ev.v 10 rfl) (Po.some (Ev.add (Ev.v 11 rfl) Ev.int)) Po.none) (slicel (Ev.v 10 rfl) Po.none (Po.some (Ev.v 11 rfl))) ?_) ?_
          · rw [cutA_map, cutA_map, List.length_map, List.length_map, show ((m : Int) + 1) = ((m + 1 : Nat) : Int) from rfl, cut_from, cut_to, List.length_drop, List.length_take]
            exact small64 (by omega)
          · refine Sj.go (fun σ C H S => hre2 σ C H (S.ws (.k (.k (.k (.k (.k (.k (.k (.k (.k (.k (.c (fun v C h => ⟨(chG ch t).drop (m + 1) ++ (chG ch t).take m, rot_ok ⟨hrv.nd, hrv.sub⟩, ?_⟩) (.d .n)))))))))))) (Wc.refl _))) rfl
            rw [cutA_map, cutA_map, ← List.map_append, show ((m : Int) + 1) = ((m + 1 : Nat) : Int) from rfl, cut_from, cut_to] at h
            exact h
      · refine Sj.if_ (Tv.eqI (Ev.v 4 rfl) Ev.int) (fun _ => ?_) (fun _ => Sj.go hre rfl)
        refine Sj.set (R := tyWt) 7 sc_len.nd (Ev.wkX (Ev.addX (Ev.toX Ev.int) (Ev.callW 0 (f_llg T) hr (by decide) ((10 : Int) ^ (40 : Int).toNat - 1) rfl (by decide) (As.cons (Ev.v 0 rfl) (As.cons (Ev.sub (Ev.pow Ev.int Ev.int (by unfold CPow; decide)) Ev.int) As.nil)))) (fun z hz => ?_)) (Sj.go hre rfl)
        obtain ⟨i, j, rfl, h2, rfl⟩ := hz
        have e : (10 : Int) ^ (40 : Int).toNat = W40 := by decide
        rw [e] at h2
        unfold W40 at h2 ⊢
        omega
    · obtain ⟨e1, e2⟩ := hes
      obtain ⟨m, hm, rfl⟩ := hks
      rw [List.length_range] at e1
      refine Sj.freeze 1 5 rfl rfl ?_
      refine Sj.ret (Ev.toP (P := EsOk (pool, os, ch)) (Rx := tyEns true) (z := es) (Ev.v 5 rfl) ⟨fun z => ?_, by omega, e2⟩) fin (fun v C h => h) (Wc.refl _)
      rw [z] at e1; simp at e1; omega)
end
end MF
set_option maxHeartbeats 4000000
/-! bounds of rationals by a common denominator; the law's list of all that is read. -/
namespace MF
open PySem PySem.Spec L2 MT MJ
open PyProof.Rows hiding St
open MK (rsum)
theorem rq_self (q : Rat) : rq q.num q.den = q := Rat.num_divInt_den q
theorem rq_mul {a b c d : Int} (hb : 0 < b) (hd : 0 < d) : rq a b * rq c d = rq (a * c) (b * d) := by
  rw [rq_eq, rq_eq, rq_eq]
  have h1 : ((a * c : Int) : Rat) = (a : Rat) * (c : Rat) := by grind
  have h2 : ((b * d : Int) : Rat) = (b : Rat) * (d : Rat) := by grind
  have h3 : (b : Rat) ≠ 0 := by have := MK.cast_pos hb; grind
  have h4 : (d : Rat) ≠ 0 := by have := MK.cast_pos hd; grind
  rw [h1, h2]
  grind
/-- a multiple of 1 / D -/
def InD (D : Int) (q : Rat) : Prop := ∃ n : Int, q = rq n D
theorem InD.add {D : Int} {q r : Rat} (h1 : InD D q) (h2 : InD D r) : InD D (q + r) := by
  obtain ⟨a, rfl⟩ := h1
  obtain ⟨b, rfl⟩ := h2
  refine ⟨a + b, ?_⟩
  rw [rq_eq, rq_eq, rq_eq]
  have : ((a + b : Int) : Rat) = (a : Rat) + (b : Rat) := by grind
  rw [this]
  grind
theorem InD.mul {D E : Int} {q r : Rat} (hD : 0 < D) (hE : 0 < E) (h1 : InD D q) (h2 : InD E r) : InD (D * E) (q * r) := by
  obtain ⟨a, rfl⟩ := h1
  obtain ⟨b, rfl⟩ := h2
  exact ⟨a * b, rq_mul hD hE⟩
theorem InD.zero (D : Int) : InD D 0 := ⟨0, by rw [rq_eq]; grind⟩
theorem InD.up {D E : Int} {q : Rat} (hD : 0 < D) (hE : 0 < E) (h : InD D q) : InD (D * E) q := by
  obtain ⟨a, rfl⟩ := h
  refine ⟨a * E, ?_⟩
  rw [rq_eq, rq_eq]
  have h1 : ((a * E : Int) : Rat) = (a : Rat) * (E : Rat) := by grind
  have h2 : ((D * E : Int) : Rat) = (D : Rat) * (E : Rat) := by grind
  have h3 : (D : Rat) ≠ 0 := by have := MK.cast_pos hD; grind
  have h4 : (E : Rat) ≠ 0 := by have := MK.cast_pos hE; grind
  rw [h1, h2]
  grind
theorem InD.up2 {D E : Int} {q : Rat} (hD : 0 < D) (hE : 0 < E) (h : InD D q) : InD (E * D) q := by rw [Int.mul_comm]; exact h.up hD hE
theorem InD.rsum {α : Type} {D : Int} {f : α → Rat} : ∀ {l : List α}, (∀ a ∈ l, InD D (f a)) → InD D (rsum l f)
  | [], _ => InD.zero D
  | a :: l, h => InD.add (h a List.mem_cons_self) (InD.rsum fun b hb => h b (List.mem_cons_of_mem _ hb))
theorem InD.den {D : Int} {q : Rat} (hD : 0 < D) (h : InD D q) : (q.den : Int) ∣ D := by
  obtain ⟨n, rfl⟩ := h
  rw [rq_den hD]
  have h1 : Int.gcd (n.natAbs : Int) (D.natAbs : Int) ∣ D.natAbs := Nat.gcd_dvd_right _ _
  have h2 := Int.natCast_dvd_natCast.mpr h1
  rw [show ((D.natAbs : Nat) : Int) = D from Int.natAbs_of_nonneg (Int.le_of_lt hD)] at h2
  rw [show ((D.natAbs : Nat) : Int) = D from Int.natAbs_of_nonneg (Int.le_of_lt hD)]
  exact Int.ediv_dvd_of_dvd h2
theorem InD.of_den {D : Int} {q : Rat} (hD : 0 < D) (h : (q.den : Int) ∣ D) : InD D q := by
  obtain ⟨c, rfl⟩ := h
  have hc : 0 < c := by
    have := den_pos q
    rcases Int.lt_trichotomy 0 c with h | h | h
    · exact h
    · subst h; omega
    · exact absurd hD (by have := Int.mul_neg_of_pos_of_neg (den_pos q) h; omega)
  exact InD.up (den_pos q) hc ⟨q.num, (rq_self q).symm⟩
/-- small, as told by a denominator and a bound -/
theorem InD.lb {D : Int} {q : Rat} {a b : Nat} (hD : 0 < D) (hl : Lb a D) (h : InD D q) (q0 : 0 ≤ q) (q1 : q ≤ ((2 ^ b : Int) : Rat)) : Lb (a + b) q.num ∧ Lb a q.den := by
  have hd := h.den hD
  refine ⟨?_, lb_dvd hl hD hd⟩
  have n0 : 0 ≤ q.num := Rat.num_nonneg.mpr q0
  have dp := den_pos q
  have l3 : (q.den : Int) ≤ D := Int.le_of_dvd hD hd
  have hs : rq q.num q.den = q := rq_self q
  rw [rq_eq] at hs
  generalize (q.den : Int) = d at *
  have dq := MK.cast_pos dp
  have e : (q.num : Rat) = q * (d : Rat) := by
    have h2 : (d : Rat) ≠ 0 := by grind
    grind
  have l1 : (q.num : Rat) ≤ ((2 ^ b * d : Int) : Rat) := by
    have h1 : ((2 ^ b * d : Int) : Rat) = ((2 ^ b : Int) : Rat) * (d : Rat) := Rat.intCast_mul _ _
    rw [e, h1]
    exact Rat.mul_le_mul_of_nonneg_right q1 (Rat.le_of_lt dq)
  have l2 : q.num ≤ 2 ^ b * d := Rat.intCast_le_intCast.mp l1
  unfold Lb at hl ⊢
  have hD2 : D < 2 ^ a := by
    have : (D.natAbs : Int) < ((2 ^ a : Nat) : Int) := Int.ofNat_lt.mpr hl
    rw [Int.natAbs_of_nonneg (by omega)] at this
    simpa using this
  have p : (0 : Int) < 2 ^ b := Int.pow_pos (by decide)
  have l4 : q.num < 2 ^ b * 2 ^ a := Int.lt_of_le_of_lt l2 (Int.mul_lt_mul_of_pos_left (by omega) p)
  rw [← Int.pow_add] at l4
  have l6 : (q.num.natAbs : Int) < ((2 ^ (a + b) : Nat) : Int) := by
    rw [Int.natAbs_of_nonneg n0]
    have : ((2 ^ (a + b) : Nat) : Int) = (2 : Int) ^ (b + a) := by rw [Nat.add_comm]; norm_cast
    rw [this]; exact l4
  exact Int.ofNat_lt.mp l6
theorem InD.small {D : Int} {q : Rat} {a b : Nat} (hD : 0 < D) (hl : Lb a D) (h : InD D q) (q0 : 0 ≤ q) (q1 : q ≤ ((2 ^ b : Int) : Rat)) (hab : a + b ≤ 4000) : Sm q :=
  let ⟨h1, h2⟩ := h.lb hD hl q0 q1
  ⟨lb_mono h1 hab, lb_mono h2 (by omega)⟩
/-- sums of at most 64 bounded numbers -/
theorem rsum_pow {α : Type} {f : α → Rat} {b : Nat} {l : List α} (hl : l.length ≤ 64) (h0 : ∀ a ∈ l, 0 ≤ f a) (h : ∀ a ∈ l, f a ≤ ((2 ^ b : Int) : Rat)) : 0 ≤ rsum l f ∧ rsum l f ≤ ((2 ^ (b + 6) : Int) : Rat) := by
  refine ⟨MK.rsum_nonneg l h0, ?_⟩
  have go : ∀ l : List α, (∀ a ∈ l, f a ≤ ((2 ^ b : Int) : Rat)) → rsum l f ≤ (((l.length : Int) * 2 ^ b : Int) : Rat) := by
    intro l
    induction l with
    | nil => intro _; show (0 : Rat) ≤ _; simp
    | cons a l ih =>
      intro h
      have h1 := ih fun b hb => h b (List.mem_cons_of_mem _ hb)
      have h2 := h a List.mem_cons_self
      show f a + rsum l f ≤ ((((l.length + 1 : Nat) : Int) * 2 ^ b : Int) : Rat)
      have e : (((l.length + 1 : Nat) : Int) * 2 ^ b : Int) = 2 ^ b + (l.length : Int) * 2 ^ b := by rw [Int.natCast_add]; rw [Int.add_mul]; omega
      rw [e, Rat.intCast_add]
      grind
  refine Rat.le_trans (go l h) (Rat.intCast_le_intCast.mpr ?_)
  rw [Nat.add_comm b 6, Int.pow_add]
  exact Int.mul_le_mul_of_nonneg_right (by omega) (Int.le_of_lt (Int.pow_pos (by decide)))
theorem rsum_take {α : Type} {f : α → Rat} {l : List α} {n : Nat} {x : α} (h : l[n]? = some x) : rsum (l.take (n + 1)) f = rsum (l.take n) f + f x := by
  rw [List.take_succ, h, MK.rsum_append]
  show _ + (f x + 0) = _
  grind
theorem rsum_len {α : Type} {f : α → Rat} {c : Rat} : ∀ (l : List α), (∀ a ∈ l, f a ≤ c) → rsum l f ≤ (l.length : Rat) * c
  | [], _ => by show (0 : Rat) ≤ (0 : Nat) * c; grind
  | a :: l, h => by
    show f a + rsum l f ≤ ((l.length + 1 : Nat) : Rat) * c
    have h1 := rsum_len l fun b hb => h b (List.mem_cons_of_mem _ hb)
    have h2 := h a List.mem_cons_self
    have h3 : ((l.length + 1 : Nat) : Rat) = (l.length : Rat) + 1 := by grind
    rw [h3]
    grind
/-! all that is read, as the law lists it -/
def ar1 (acc l : List Str) : List Str := acc ++ l.filter fun o => !decide (o ∈ acc)
def arF (ch : Chs) : List Str := ch.foldl (fun acc r => ar1 acc r.2) []
theorem ar1_ok {acc l : List Str} (h : acc.Nodup) (hl : l.Nodup) : (ar1 acc l).Nodup ∧ ∀ x, x ∈ ar1 acc l ↔ x ∈ acc ∨ x ∈ l := by
  unfold ar1
  refine ⟨?_, fun x => ?_⟩
  · rw [List.nodup_append]
    refine ⟨h, hl.filter _, fun a ha b hb e => ?_⟩
    have := (List.mem_filter.mp hb).2
    rw [← e] at this
    simp [ha] at this
  · rw [List.mem_append, List.mem_filter]
    by_cases hx : x ∈ acc
    · simp [hx]
    · simp [hx]
theorem arF_ok {ch : Chs} (h : ∀ r ∈ ch, r.2.Nodup) : (arF ch).Nodup ∧ ∀ x, x ∈ arF ch ↔ ∃ r ∈ ch, x ∈ r.2 := by
  refine snocI (P := fun ch : Chs => (∀ r ∈ ch, r.2.Nodup) → (arF ch).Nodup ∧ ∀ x, x ∈ arF ch ↔ ∃ r ∈ ch, x ∈ r.2) (fun _ => ⟨List.nodup_nil, fun x => ⟨fun h => absurd h List.not_mem_nil, fun ⟨r, h, _⟩ => absurd h List.not_mem_nil⟩⟩) (fun l r ih h => ?_) ch h
  obtain ⟨i1, i2⟩ := ih fun r hr => h r (List.mem_append_left _ hr)
  have e : arF (l ++ [r]) = ar1 (arF l) r.2 := by unfold arF; rw [List.foldl_append]; rfl
  rw [e]
  obtain ⟨a1, a2⟩ := ar1_ok i1 (h r (by simp))
  refine ⟨a1, fun x => (a2 x).trans ?_⟩
  rw [i2]
  constructor
  · rintro (⟨s, hs, hx⟩ | hx)
    · exact ⟨s, List.mem_append_left _ hs, hx⟩
    · exact ⟨r, by simp, hx⟩
  · rintro ⟨s, hs, hx⟩
    rcases List.mem_append.mp hs with hs | hs
    · exact .inl ⟨s, hs, hx⟩
    · rw [List.mem_singleton.mp hs] at hx; exact .inr hx
end MF
set_option maxHeartbeats 4000000
/-! the law's defs: paper_cost. -/
namespace MF
open PySem PySem.Spec L2 MT MJ
open PyProof.Rows hiding St
open MK (rsum)
structure PcI where
  wt : Tbl
  ch : Chs
  u : Str → Rat
  v : Str → Rat
  lev : Rat
  D : Int
def pcM (i : PcI) : List (Str × Rat) := (srt (i.wt.map (·.1))).map fun t => (t, i.u t)
def pcN (i : PcI) : List (Str × Rat) := (srt (arF i.ch)).map fun r => (r, i.v r)
def pcA (i : PcI) (p : Str × Int) : Rat := rq ((i.u p.1).num * p.2) ((i.u p.1).den * tbS i.wt)
def pcB (i : PcI) (o : Str) : Rat := rq ((i.v o).num * i.lev.num) ((i.v o).den * i.lev.den)
def pcW (i : PcI) : Rat := rsum i.wt (pcA i) + rsum (arF i.ch) (pcB i)
structure PcPre (i : PcI) : Prop where
  nd : (i.wt.map (·.1)).Nodup
  wl : i.wt.length < 64
  w0 : ∀ p ∈ i.wt, 0 ≤ p.2 ∧ Lb 200 p.2
  s0 : 0 < tbS i.wt
  sb : Lb 200 (tbS i.wt)
  kc : ∀ p ∈ i.wt, p.1 ∈ i.ch.map (·.1)
  cn : (i.ch.map (·.1)).Nodup
  cl : i.ch.length < 64
  ce : ∀ r ∈ i.ch, r.2.Nodup ∧ r.2.length ≤ 60
  al : (arF i.ch).length < 64
  d0 : 0 < i.D
  db : Lb 600 i.D
  ud : ∀ p ∈ i.wt, InD i.D (i.u p.1) ∧ 0 ≤ i.u p.1 ∧ i.u p.1 ≤ ((2 ^ 600 : Int) : Rat)
  vd : ∀ r ∈ arF i.ch, InD i.D (i.v r) ∧ 0 ≤ i.v r ∧ i.v r ≤ ((2 ^ 600 : Int) : Rat)
  l0 : 0 ≤ i.lev
  l1 : i.lev ≤ 1
  ld : Lb 200 i.lev.den
  dual : ∀ p ∈ i.wt, 1 ≤ i.u p.1 + rsum (chG i.ch p.1) i.v
theorem chG_mem {ch : Chs} (nd : (ch.map (·.1)).Nodup) {p : Str × List Str} (h : p ∈ ch) : chG ch p.1 = p.2 := by
  unfold chG
  rw [dget_mem nd h]; rfl
theorem ar_len : ∀ (l : Chs) (acc : List Str), (∀ r ∈ l, r.2.length ≤ 60) → (l.foldl (fun acc r => ar1 acc r.2) acc).length ≤ acc.length + 60 * l.length
  | [], acc, _ => Nat.le_refl _
  | r :: l, acc, h => by
    have h1 := ar_len l (ar1 acc r.2) fun s hs => h s (List.mem_cons_of_mem _ hs)
    have h2 := h r List.mem_cons_self
    have h3 : (ar1 acc r.2).length ≤ acc.length + 60 := by
      unfold ar1
      rw [List.length_append]
      have := List.length_filter_le (fun o => !decide (o ∈ acc)) r.2
      omega
    show (l.foldl (fun acc r => ar1 acc r.2) (ar1 acc r.2)).length ≤ _
    rw [List.length_cons]; omega
theorem pow_nn (b : Nat) : (0 : Rat) ≤ ((2 ^ b : Int) : Rat) := MK.cast_nn (Int.le_of_lt (Int.pow_pos (by decide)))
theorem pow_mul (a b : Nat) : ((2 ^ a : Int) : Rat) * ((2 ^ b : Int) : Rat) = ((2 ^ (a + b) : Int) : Rat) := by rw [← Rat.intCast_mul, ← Int.pow_add]
theorem pow_mono {a b : Nat} (h : a ≤ b) : ((2 ^ a : Int) : Rat) ≤ ((2 ^ b : Int) : Rat) := Rat.intCast_le_intCast.mpr (by
  have := Nat.pow_le_pow_right (show 0 < 2 by decide) h
  exact_mod_cast this)
theorem lb_rat {a : Int} {n : Nat} (h : Lb n a) : (a : Rat) ≤ ((2 ^ n : Int) : Rat) := Rat.intCast_le_intCast.mpr (by
  unfold Lb at h
  have : (a.natAbs : Int) < ((2 ^ n : Nat) : Int) := Int.ofNat_lt.mpr h
  have h2 : ((2 ^ n : Nat) : Int) = (2 : Int) ^ n := by norm_cast
  omega)
theorem mul_le {a b c d : Rat} (h1 : a ≤ b) (h2 : c ≤ d) (h3 : 0 ≤ c) (h4 : 0 ≤ b) : a * c ≤ b * d := Rat.le_trans (Rat.mul_le_mul_of_nonneg_right h1 h3) (Rat.mul_le_mul_of_nonneg_left h2 h4)
section
variable {i : PcI}
theorem pcA_eq (h : PcPre i) (p : Str × Int) : pcA i p = i.u p.1 * rq p.2 (tbS i.wt) := by
  unfold pcA
  rw [← rq_mul (den_pos _) h.s0, rq_self]
theorem pcB_eq (o : Str) : pcB i o = i.v o * i.lev := by
  unfold pcB
  rw [← rq_mul (den_pos _) (den_pos _), rq_self, rq_self]
theorem rq_nn {a b : Int} (ha : 0 ≤ a) (hb : 0 < b) : 0 ≤ rq a b := by rw [rq_eq]; exact MK.div_nn (MK.cast_nn ha) (MK.cast_pos hb)
theorem rq_le {a b : Int} (ha : 0 ≤ a) (hb : 0 < b) : rq a b ≤ (a : Rat) := by
  rw [rq_eq]
  have h1 := MK.cast_pos hb
  have h2 : (1 : Rat) ≤ (b : Rat) := by exact_mod_cast (Rat.intCast_le_intCast.mpr (show (1 : Int) ≤ b by omega))
  have h3 : (a : Rat) = (a : Rat) * (b : Rat) / (b : Rat) := by
    have : (b : Rat) ≠ 0 := by grind
    grind
  conv => rhs; rw [h3]
  refine MK.div_le h1 ?_
  have := Rat.mul_le_mul_of_nonneg_left h2 (MK.cast_nn ha)
  grind
theorem pcA_ok (h : PcPre i) {p : Str × Int} (hp : p ∈ i.wt) : InD (i.D * tbS i.wt) (pcA i p) ∧ 0 ≤ pcA i p ∧ pcA i p ≤ ((2 ^ 800 : Int) : Rat) := by
  obtain ⟨a1, a2, a3⟩ := h.ud p hp
  obtain ⟨b1, b2⟩ := h.w0 p hp
  have n1 := rq_nn b1 h.s0
  rw [pcA_eq h]
  refine ⟨a1.mul h.d0 h.s0 ⟨_, rfl⟩, Rat.mul_nonneg a2 n1, ?_⟩
  have := mul_le a3 (Rat.le_trans (rq_le b1 h.s0) (lb_rat b2)) n1 (pow_nn 600)
  rwa [pow_mul] at this
theorem pcB_ok (h : PcPre i) {o : Str} (ho : o ∈ arF i.ch) : InD (i.D * i.lev.den) (pcB i o) ∧ 0 ≤ pcB i o ∧ pcB i o ≤ ((2 ^ 800 : Int) : Rat) := by
  obtain ⟨a1, a2, a3⟩ := h.vd o ho
  rw [pcB_eq]
  refine ⟨a1.mul h.d0 (den_pos _) ⟨i.lev.num, (rq_self _).symm⟩, Rat.mul_nonneg a2 h.l0, ?_⟩
  have h1 := mul_le a3 h.l1 h.l0 (pow_nn 600)
  rw [Rat.mul_one] at h1
  exact Rat.le_trans h1 (pow_mono (by decide))
abbrev pcD (i : PcI) : Int := i.D * tbS i.wt * i.lev.den
theorem pcD_ok (h : PcPre i) : 0 < pcD i ∧ Lb 1000 (pcD i) := ⟨Int.mul_pos (Int.mul_pos h.d0 h.s0) (den_pos _), lb_mul (a := 800) (b := 200) (lb_mul (a := 600) (b := 200) h.db h.sb) h.ld⟩
theorem pcA_D (h : PcPre i) {p : Str × Int} (hp : p ∈ i.wt) : InD (pcD i) (pcA i p) := (pcA_ok h hp).1.up (Int.mul_pos h.d0 h.s0) (den_pos _)
theorem pcB_D (h : PcPre i) {o : Str} (ho : o ∈ arF i.ch) : InD (pcD i) (pcB i o) := by
  have h1 := (pcB_ok h ho).1.up (Int.mul_pos h.d0 (den_pos _)) h.s0
  have e : i.D * (i.lev.den : Int) * tbS i.wt = pcD i := by show _ = i.D * tbS i.wt * i.lev.den; rw [Int.mul_assoc, Int.mul_comm (i.lev.den : Int), ← Int.mul_assoc]
  rwa [e] at h1
/-- the partial sums of the cost -/
theorem pc_sm (h : PcPre i) (n m : Nat) : Sm (rsum (i.wt.take n) (pcA i) + rsum ((arF i.ch).take m) (pcB i)) := by
  obtain ⟨d0, db⟩ := pcD_ok h
  have wl := h.wl
  have al := h.al
  obtain ⟨a1, a2⟩ := rsum_pow (f := pcA i) (b := 800) (l := i.wt.take n) (by rw [List.length_take]; omega) (fun p hp => (pcA_ok h (List.mem_of_mem_take hp)).2.1) (fun p hp => (pcA_ok h (List.mem_of_mem_take hp)).2.2)
  obtain ⟨b1, b2⟩ := rsum_pow (f := pcB i) (b := 800) (l := (arF i.ch).take m) (by rw [List.length_take]; omega) (fun p hp => (pcB_ok h (List.mem_of_mem_take hp)).2.1) (fun p hp => (pcB_ok h (List.mem_of_mem_take hp)).2.2)
  have hi : InD (pcD i) (rsum (i.wt.take n) (pcA i) + rsum ((arF i.ch).take m) (pcB i)) := (InD.rsum fun p hp => pcA_D h (List.mem_of_mem_take hp)).add (InD.rsum fun o ho => pcB_D h (List.mem_of_mem_take ho))
  refine hi.small (a := 1000) (b := 807) d0 db (by grind) ?_ (by decide)
  have e : ((2 ^ 807 : Int) : Rat) = ((2 ^ 806 : Int) : Rat) + ((2 ^ 806 : Int) : Rat) := by
    rw [← Rat.intCast_add]
    congr 1
  rw [e]
  grind
theorem pc_u (h : PcPre i) {p : Str × Int} (hp : p ∈ i.wt) : Lb 1200 (i.u p.1).num ∧ Lb 600 (i.u p.1).den := let ⟨a1, a2, a3⟩ := h.ud p hp; a1.lb h.d0 h.db a2 a3
theorem pc_v (h : PcPre i) {r : Str} (hp : r ∈ arF i.ch) : Lb 1200 (i.v r).num ∧ Lb 600 (i.v r).den := let ⟨a1, a2, a3⟩ := h.vd r hp; a1.lb h.d0 h.db a2 a3
theorem pc_ar (h : PcPre i) {p : Str × Int} (hp : p ∈ i.wt) {o : Str} (ho : o ∈ chG i.ch p.1) : o ∈ arF i.ch := ((arF_ok fun r hr => (h.ce r hr).1).2 o).mpr ⟨_, dget_some_mem (chG_of (h.kc p hp)), ho⟩
theorem pc_reach (h : PcPre i) {p : Str × Int} (hp : p ∈ i.wt) (m : Nat) : Sm (i.u p.1 + rsum ((chG i.ch p.1).take m) i.v) := by
  obtain ⟨a1, a2, a3⟩ := h.ud p hp
  have hl := (h.ce _ (dget_some_mem (chG_of (h.kc p hp)))).2
  have hl : (chG i.ch p.1).length ≤ 60 := hl
  have hv : ∀ o ∈ (chG i.ch p.1).take m, o ∈ arF i.ch := fun o ho => pc_ar h hp (List.mem_of_mem_take ho)
  obtain ⟨b1, b2⟩ := rsum_pow (f := i.v) (b := 600) (l := (chG i.ch p.1).take m) (by rw [List.length_take]; omega) (fun o ho => (h.vd o (hv o ho)).2.1) (fun o ho => (h.vd o (hv o ho)).2.2)
  refine (a1.add (InD.rsum fun o ho => (h.vd o (hv o ho)).1)).small (a := 600) (b := 607) h.d0 h.db (by grind) ?_ (by decide)
  have e : ((2 ^ 607 : Int) : Rat) = ((2 ^ 606 : Int) : Rat) + ((2 ^ 606 : Int) : Rat) := by
    rw [← Rat.intCast_add]
    congr 1
  have e2 : ((2 ^ 600 : Int) : Rat) ≤ ((2 ^ 606 : Int) : Rat) := pow_mono (by decide)
  rw [e]
  grind
end
end MF
set_option maxHeartbeats 4000000
/-! the law's defs: paper_cost. -/
namespace MF
open PySem PySem.Spec L2 MT MJ
open PyProof.Rows hiding St
open MK (rsum)
theorem d_ref {fs : List (Str × Ty)} (v : V) (C : Hp) (h : (tyD fs).r v C) : decide (v = .non) = false := by
  obtain ⟨p, o, rfl, _⟩ := h; rfl
theorem q_le_num {q : Rat} (h : 1 ≤ q) : (q.den : Int) ≤ q.num := by
  have := (Rat.le_iff 1 q).mp h
  simpa using this
theorem q_num_nn {q : Rat} (h : 0 ≤ q) : 0 ≤ q.num := Rat.num_nonneg.mpr h
section
variable {P : Program} {w : World} {K : PySem.W.Frag} {mg : Str → Option Value} {base : Heap}
abbrev NPc : List Str := ["_law_paper", "_law_weights_here", "_law_readable", "_law_level", "_law_all_read", "_law_text_here", "_law_own", "_law_read", "_law_full", "_law_cost_here", "_law_reached", "_law_other"]
theorem sc_lpc : FnScope NPc ["_law_paper", "_law_weights_here", "_law_readable", "_law_level"] (defScope s_l_paper_cost) := ⟨rfl, rfl, rfl, by decide +kernel, rfl, by decide +kernel, by decide +kernel⟩
theorem f_lpc (T : Tx K mg) : C8.Cal P w K mg base 4 "_law_paper_cost" (spP PcPre (fun i => [tyTup [rowY K (pcM i), rowY K (pcN i)], tyD (vmap tyI i.wt), tyRd i.ch, tyQ i.lev]) (fun i => tyQ (pcW i))) [] :=
  mkCal T.g_law_paper_cost T.d_l_paper_cost sc_lpc (fun _ _ _ _ _ _ us hl => match us, hl with | [_, _, _, _], _ => rfl) (lenP fun _ => rfl) (bodyP fun cdv A outer s H E hr i B D h fin _ => by
    have hu := hu_of hr
    have wl := h.wl
    have cl := h.cl
    have al := h.al
    have arnd := (arF_ok fun r hr => (h.ce r hr).1).1
    refine Sj.never (Tv.is (Tv.w (Wv.or (Tv.notD (Tv.val (Ev.isTup T (Ev.v 0 rfl)))) fun _ => Wv.or1 (Tv.neI (lenT T.f_len (Lv.core (Ev.v 0 rfl))) Ev.int))) rfl) ?_
    refine Sj.set (R := tyLs []) 4 sc_lpc.nd (Ev.lst As.nil) ?_
    refine Sj.forD (fs := vmap tyLs i.ch) (xs := i.ch) (Rx := fun p => tyS p.1) rfl PassesOwn.never (fun d => [some (tyTup [rowY K (pcM i), rowY K (pcN i)]), some (tyD (vmap tyI i.wt)), some (tyP d), some (tyQ i.lev), some (tyLs []), none, none, none, none, none, none, none]) (fun σ C sl => ?_) (fun B' d ob ks hg hk => ?_) (fun x => gName 5 sc_lpc.nd)
      (fun n => [some (tyTup [rowY K (pcM i), rowY K (pcN i)]), some (tyD (vmap tyI i.wt)), some (tyRd i.ch), some (tyQ i.lev), some (tyLs ((i.ch.take n).foldl (fun acc r => ar1 acc r.2) [])), none, none, none, none, none, none, none]) (fun n => []) (.k (.k (.k (.k (.k (.d (.d (.d (.d (.d (.d (.d .n)))))))))))) .n (fun B' D' hfin Bk n p hn => ?_) ?_
    · obtain ⟨d, ks, h1, h2, h3⟩ := slot_dict sl (i := 2) rfl
      exact ⟨d, ks, h1, h2, h3.ws (.k (.k (.k (.k (.k (.d (.d (.d (.d (.d (.d (.d .n))))))))))))⟩
    · have e : (i.ch.map fun p => tyS p.1) = (vmap tyLs i.ch).map fun q => tyS q.1 := by unfold vmap; rw [List.map_map]; rfl
      rw [e]
      exact Iv.keys (Ev.v 2 rfl) hg hk
    · have hpm := List.mem_of_getElem? hn
      have hk : p.1 ∈ i.ch.map (·.1) := List.mem_map.mpr ⟨p, hpm, rfl⟩
      have hce := (h.ce p hpm).2
      have hcg := chG_mem h.cn hpm
      have hln := ar_len (i.ch.take n) [] fun r hr => (h.ce r (List.mem_of_mem_take hr)).2
      rw [List.length_take] at hln
      generalize hacc : (i.ch.take n).foldl (fun acc r => ar1 acc r.2) [] = acc at hln
      refine Sj.set 4 sc_lpc.nd (Ev.addL (Ev.v 4 rfl) (Ev.lcF (xs := chG i.ch p.1) (Rx := tyS) (Ro := tyS) (pr := fun o => !decide (o ∈ acc)) [("_law_other", 11)] rfl sc_lpc.nd (Iv.list (dgetE (Lv.core (Ev.v 2 rfl)) (Ev.v 5 rfl) (rd_get hk) hu)) (blkOk_by (N := NPc) (sc := defScope s_l_paper_cost) (by decide +kernel))
        (fun x s0 H0 Cc cl fp => gName 11 sc_lpc.nd) (by decide) (by rw [hcg]; exact small1000 (by omega)) (fun o ho s0 H0 Cc cl fp D K => Qv.one (TnotL (l := acc) (Ev.v 11 rfl) (Lv.core (Ev.v 4 rfl)))) (fun o ho _ s0 H0 Cc cl fp D K => Ev.v 11 rfl)) ?_) ?_
      · rw [List.length_map, List.length_map, hcg]
        have := List.length_filter_le (fun o => !decide (o ∈ acc)) p.2
        simp only [List.length_nil] at hln
        exact Nat.le_of_lt (Nat.lt_of_le_of_lt (show _ ≤ 64 * 64 + 64 by omega) (by decide))
      · refine Sj.at (.k (.k (.k (.k (.c (fun v C r => ?_) (.d (.d (.d (.d (.d (.d (.d .n)))))))))))) .n
        rw [foldl_take (fun acc (r : Str × List Str) => ar1 acc r.2) [] hn, hacc]
        rw [hcg, ← List.map_append] at r
        exact r
    rw [List.take_length]
    have hsl : (srt (i.wt.map (·.1))).length = i.wt.length := by rw [srt_length, List.length_map]
    have hsa : (srt (arF i.ch)).length = (arF i.ch).length := srt_length _
    have kM : (pcM i).map (·.1) = srt (i.wt.map (·.1)) := by unfold pcM; rw [List.map_map]; exact List.map_id _
    have kN : (pcN i).map (·.1) = srt (arF i.ch) := by unfold pcN; rw [List.map_map]; exact List.map_id _
    refine Sj.set 6 sc_lpc.nd (Ev.call (f_lprs T) hr (by decide) (pcM i) ⟨by rw [kM]; exact srt_nodup h.nd, by unfold pcM; rw [List.length_map, hsl]; omega⟩ (As.cons (ixt (Lv.core (Ev.v 0 rfl)) Ev.int rfl) (As.cons (Ev.eq (sortS (xs := i.wt) (g := fun p => p.1) T.f_sorted (Ev.conv (listD rfl T.f_list (Lv.core (Ev.v 1 rfl))) fun v C r => .inl (by
        have e : (i.wt.map fun p => tyS p.1) = (vmap tyI i.wt).map fun q => tyS q.1 := by unfold vmap; rw [List.map_map]; rfl
        rw [e]; exact r)) wl) (by unfold pcM; rw [List.map_map]; rfl)) As.nil))) ?_
    refine Sj.set 7 sc_lpc.nd (Ev.call (f_lprs T) hr (by decide) (pcN i) ⟨by rw [kN]; exact srt_nodup arnd, by unfold pcN; rw [List.length_map, hsa]; omega⟩ (As.cons (ixt (Lv.core (Ev.v 0 rfl)) Ev.int rfl) (As.cons (Ev.eq (sortSS (l := arF i.ch) T.f_sorted (Ev.conv (Ev.v 4 rfl) fun v C r => .inl r) al) (by unfold pcN; rw [List.map_map]; rfl)) As.nil))) ?_
    refine Sj.never (Tv.is (Tv.w (Wv.or (Tv.isN (Ev.v 6 rfl) (bb := false) d_ref) fun _ => Wv.or1 (Tv.isN (Ev.v 7 rfl) (bb := false) d_ref))) rfl) ?_
    refine Sj.set (R := tyI (tbS i.wt)) 8 sc_lpc.nd (sumL (xs := i.wt) (g := fun p => p.2) rfl T.f_sum (Ev.eq (listVals rfl T.f_list (Lv.core (Ev.v 1 rfl))) (by rw [vmap_vals]))) ?_
    refine Sj.set (R := tyQ 0) 9 sc_lpc.nd (Ev.tup (As.cons Ev.int (As.cons Ev.int As.nil))) ?_
    have gM : ∀ p ∈ i.wt, dget (vmap tyQ (pcM i)) p.1 = some (tyQ (i.u p.1)) := fun p hp => by
      rw [dget_vmap, dget_mem (m := pcM i) (a := i.u p.1) (by rw [kM]; exact srt_nodup h.nd) (List.mem_map.mpr ⟨p.1, srt_mem.mpr (List.mem_map.mpr ⟨p, hp, rfl⟩), rfl⟩)]; rfl
    have gN : ∀ o ∈ arF i.ch, dget (vmap tyQ (pcN i)) o = some (tyQ (i.v o)) := fun o ho => by
      rw [dget_vmap, dget_mem (m := pcN i) (a := i.v o) (by rw [kN]; exact srt_nodup arnd) (List.mem_map.mpr ⟨o, srt_mem.mpr ho, rfl⟩)]; rfl
    have gW : ∀ p ∈ i.wt, dget (vmap tyI i.wt) p.1 = some (tyI p.2) := fun p hp => by rw [dget_vmap, dget_mem h.nd hp]; rfl
    refine Sj.forD (fs := vmap tyI i.wt) (xs := i.wt) (Rx := fun p => tyS p.1) rfl PassesOwn.never (fun d => [none, some (tyP d), some (tyRd i.ch), some (tyQ i.lev), some (tyLs (arF i.ch)), none, some (tyD (vmap tyQ (pcM i))), some (tyD (vmap tyQ (pcN i))), some (tyI (tbS i.wt)), some (tyQ 0), none, none]) (fun σ C sl => ?_) (fun B' d ob ks hg hk => ?_) (fun x => gName 5 sc_lpc.nd)
      (fun n => [none, some (tyD (vmap tyI i.wt)), some (tyRd i.ch), some (tyQ i.lev), some (tyLs (arF i.ch)), none, some (tyD (vmap tyQ (pcM i))), some (tyD (vmap tyQ (pcN i))), some (tyI (tbS i.wt)), some (tyQ (rsum (i.wt.take n) (pcA i))), none, none]) (fun n => []) (.d (.k (.k (.k (.k (.d (.k (.k (.k (.k (.d (.d .n)))))))))))) .n (fun B' D' hfin Bk n p hn => ?_) ?_
    · obtain ⟨d, ks, h1, h2, h3⟩ := slot_dict sl (i := 1) rfl
      exact ⟨d, ks, h1, h2, h3.ws (.d (.k (.k (.k (.k (.d (.k (.k (.k (.k (.d (.d .n))))))))))))⟩
    · have e : (i.wt.map fun p => tyS p.1) = (vmap tyI i.wt).map fun q => tyS q.1 := by unfold vmap; rw [List.map_map]; rfl
      rw [e]
      exact Iv.keys (Ev.v 1 rfl) hg hk
    · have hpm := List.mem_of_getElem? hn
      have q1 := pc_sm h n 0
      rw [show rsum ((arF i.ch).take 0) (pcB i) = 0 from rfl, Rat.add_zero] at q1
      obtain ⟨u1, u2⟩ := pc_u h hpm
      obtain ⟨_, u0, _⟩ := h.ud p hpm
      obtain ⟨w0, w1⟩ := h.w0 p hpm
      have m1 : Lb 4000 ((i.u p.1).num * p.2) := lb_mono (lb_mul u1 w1) (by decide)
      have m2 : Lb 4000 (((i.u p.1).den : Int) * tbS i.wt) := lb_mono (lb_mul u2 h.sb) (by decide)
      refine Sj.set 10 sc_lpc.nd (dgetE (Lv.core (Ev.v 6 rfl)) (Ev.v 5 rfl) (gM p hpm) hu) ?_
      refine Sj.never (Tv.is (Tv.lt (ixt (Lv.core (dgetE (Lv.core (Ev.v 6 rfl)) (Ev.v 5 rfl) (gM p hpm) hu)) Ev.int rfl) Ev.int) (decide_eq_false (by have := q_num_nn u0; omega))) ?_
      refine Sj.set 9 sc_lpc.nd (Ev.call (f_ladd T) hr (by decide) (((rsum (i.wt.take n) (pcA i)).num, ((rsum (i.wt.take n) (pcA i)).den : Int)), ((i.u p.1).num * p.2, ((i.u p.1).den : Int) * tbS i.wt)) ⟨den_pos _, Int.mul_pos (den_pos _) h.s0, q1.n, q1.d, m1, m2⟩
        (As.cons (Ev.v 9 rfl) (As.cons (Ev.tup (As.cons (Ev.mul (ixt (Lv.core (dgetE (Lv.core (Ev.v 6 rfl)) (Ev.v 5 rfl) (gM p hpm) hu)) Ev.int rfl) (dgetE (Lv.core (Ev.v 1 rfl)) (Ev.v 5 rfl) (gW p hpm) hu) (sm_mul (lb_mono u1 (by decide)) (lb_mono w1 (by decide)))) (As.cons (Ev.mul (ixt (Lv.core (dgetE (Lv.core (Ev.v 6 rfl)) (Ev.v 5 rfl) (gM p hpm) hu)) Ev.int rfl) (Ev.v 8 rfl) (sm_mul (lb_mono u2 (by decide)) (lb_mono h.sb (by decide)))) As.nil))) As.nil))) ?_
      refine Sj.for_ (xs := chG i.ch p.1) (Rx := tyS) rfl PassesOwn.never (Iv.list (dgetE (Lv.core (Ev.v 2 rfl)) (Ev.v 5 rfl) (rd_get (h.kc p hpm)) hu)) (fun x => gName 11 sc_lpc.nd)
        (fun m => [none, some (tyD (vmap tyI i.wt)), some (tyRd i.ch), some (tyQ i.lev), some (tyLs (arF i.ch)), none, some (tyD (vmap tyQ (pcM i))), some (tyD (vmap tyQ (pcN i))), some (tyI (tbS i.wt)), some (tyQ (rsum (i.wt.take (n + 1)) (pcA i))), some (tyQ (i.u p.1 + rsum ((chG i.ch p.1).take m) i.v)), none]) (fun m => []) (.d (.k (.k (.k (.k (.d (.k (.k (.k (.c (fun v C r => ?_) (.c (fun v C r => ?_) (.d .n)))))))))))) .n (fun B2 _ _ _ m o hm => ?_) ?_
      · rw [rsum_take hn]
        rw [rq_self] at r
        exact r
      · show (tyQ (i.u p.1 + 0)).r v C
        rw [Rat.add_zero]; exact r
      · have ho := List.mem_of_getElem? hm
        have hoa := pc_ar h hpm ho
        have r1 := pc_reach h hpm m
        obtain ⟨v1, v2⟩ := pc_v h hoa
        refine Sj.set 10 sc_lpc.nd (Ev.call (f_ladd T) hr (by decide) (((i.u p.1 + rsum ((chG i.ch p.1).take m) i.v).num, ((i.u p.1 + rsum ((chG i.ch p.1).take m) i.v).den : Int)), ((i.v o).num, ((i.v o).den : Int))) ⟨den_pos _, den_pos _, r1.n, r1.d, lb_mono v1 (by decide), lb_mono v2 (by decide)⟩ (As.cons (Ev.v 10 rfl) (As.cons (dgetE (Lv.core (Ev.v 7 rfl)) (Ev.v 11 rfl) (gN o hoa) hu) As.nil))) ?_
        refine Sj.at (.d (.k (.k (.k (.k (.d (.k (.k (.k (.k (.c (fun v C r => ?_) (.d .n)))))))))))) .n
        rw [rq_self, rq_self] at r
        rw [rsum_take hm, ← Rat.add_assoc]
        exact r
      · rw [List.take_length]
        refine Sj.never (Tv.is (Tv.lt (ixt (Lv.core (Ev.v 10 rfl)) Ev.int rfl) (ixt (Lv.core (Ev.v 10 rfl)) Ev.int rfl)) (decide_eq_false (by have := q_le_num (h.dual p hpm); omega))) ?_
        exact Sj.at (.d (.k (.k (.k (.k (.d (.k (.k (.k (.k (.d (.d .n)))))))))))) .n
    rw [List.take_length]
    refine Sj.for_ (xs := arF i.ch) (Rx := tyS) rfl PassesOwn.never (Iv.list (Ev.v 4 rfl)) (fun x => gName 11 sc_lpc.nd)
      (fun n => [none, none, none, some (tyQ i.lev), none, none, none, some (tyD (vmap tyQ (pcN i))), none, some (tyQ (rsum i.wt (pcA i) + rsum ((arF i.ch).take n) (pcB i))), none, none]) (fun _ => []) (.d (.d (.d (.k (.d (.d (.d (.k (.d (.c (fun v C r => ?_) (.d (.d .n)))))))))))) .n (fun B' _ _ _ n o hn => ?_) ?_
    · show (tyQ (rsum i.wt (pcA i) + 0)).r v C
      rw [Rat.add_zero]; exact r
    · have hoa := List.mem_of_getElem? hn
      have q1 := pc_sm h i.wt.length n
      rw [List.take_length] at q1
      obtain ⟨_, v0, _⟩ := h.vd o hoa
      obtain ⟨v1, v2⟩ := pc_v h hoa
      have ln : Lb 200 i.lev.num := by
        have a := q_num_nn h.l0
        have b := (Rat.le_iff i.lev 1).mp h.l1
        simp at b
        exact lb_le h.ld (by omega)
      refine Sj.never (Tv.is (Tv.lt (ixt (Lv.core (dgetE (Lv.core (Ev.v 7 rfl)) (Ev.v 11 rfl) (gN o hoa) hu)) Ev.int rfl) Ev.int) (decide_eq_false (by have := q_num_nn v0; omega))) ?_
      refine Sj.set 9 sc_lpc.nd (Ev.call (f_ladd T) hr (by decide) (((rsum i.wt (pcA i) + rsum ((arF i.ch).take n) (pcB i)).num, ((rsum i.wt (pcA i) + rsum ((arF i.ch).take n) (pcB i)).den : Int)), ((i.v o).num * i.lev.num, ((i.v o).den : Int) * (i.lev.den : Int))) ⟨den_pos _, Int.mul_pos (den_pos _) (den_pos _), q1.n, q1.d, lb_mono (lb_mul v1 ln) (by decide), lb_mono (lb_mul v2 h.ld) (by decide)⟩
        (As.cons (Ev.v 9 rfl) (As.cons (Ev.tup (As.cons (Ev.mul (ixt (Lv.core (dgetE (Lv.core (Ev.v 7 rfl)) (Ev.v 11 rfl) (gN o hoa) hu)) Ev.int rfl) (ixt (Lv.core (Ev.v 3 rfl)) Ev.int rfl) (sm_mul (lb_mono v1 (by decide)) (lb_mono ln (by decide)))) (As.cons (Ev.mul (ixt (Lv.core (dgetE (Lv.core (Ev.v 7 rfl)) (Ev.v 11 rfl) (gN o hoa) hu)) Ev.int rfl) (ixt (Lv.core (Ev.v 3 rfl)) Ev.int rfl) (sm_mul (lb_mono v2 (by decide)) (lb_mono h.ld (by decide)))) As.nil))) As.nil))) ?_
      refine Sj.at (.d (.d (.d (.k (.d (.d (.d (.k (.d (.c (fun v C r => ?_) (.d (.d .n)))))))))))) .n
      rw [rq_self] at r
      rw [rsum_take hn, ← Rat.add_assoc]
      exact r
    · rw [List.take_length]
      exact Sj.ret (Ev.v 9 rfl) fin (fun v C r => r) .n)
end
end MF
set_option maxHeartbeats 4000000
/-! the law's defs: worth_due, keys_of. -/
namespace MF
open PySem PySem.Spec L2 MT MJ
open PyProof.Rows hiding St
open MK (rsum)
structure WdI where
  tb : Tbl
  cg : Chs
  q : Rat
  wt : Tbl
  rd : Chs
abbrev wdS (i : WdI) : Tbl × Chs × Rat := (i.tb, i.cg, i.q)
noncomputable abbrev wdP (i : WdI) : PcI := ⟨i.wt, i.rd, prU (wdS i), prV (wdS i), min i.q 1, (wsX (wdS i)).dv⟩
structure WdPre (i : WdI) : Prop where
  ws : WsPre (wdS i)
  pc : PcPre (wdP i)
  cost : pcW (wdP i) = wsW (wdS i)
  tt : tbK i.tb = srt (i.wt.map (·.1))
  rr : srt (dst (flT i.cg)) = srt (arF i.rd)
theorem min_gt {q : Rat} (h : (q.den : Int) < q.num) : min q 1 = 1 := by
  have : ¬ q ≤ 1 := fun z => by
    have := (Rat.le_iff q 1).mp z
    simp at this
    omega
  grind
theorem min_ngt {q : Rat} (h : ¬ (q.den : Int) < q.num) : min q 1 = q := by
  have : q ≤ 1 := (Rat.le_iff q 1).mpr (by simp; omega)
  grind
section
variable {P : Program} {w : World} {K : PySem.W.Frag} {mg : Str → Option Value} {base : Heap}
abbrev NWd : List Str := ["_law_table", "_law_changes", "_law_level", "_law_weights_here", "_law_readable", "_law_asked", "_law_used", "_law_text_here", "_law_cost_here", "_law_told"]
theorem sc_lwd : FnScope NWd ["_law_table", "_law_changes", "_law_level", "_law_weights_here", "_law_readable"] (defScope s_l_worth_due) := ⟨rfl, rfl, rfl, by decide +kernel, rfl, by decide +kernel, by decide +kernel⟩
theorem f_lwd (T : Tx K mg) : C8.Cal P w K mg base 9 "_law_worth_due" (spP WdPre (fun i => [tyTb K i.tb, tyCh K i.cg, tySh (CShare K) i.q, tyD (vmap tyI i.wt), tyRd i.rd]) (fun i => tyQ (wsW (wdS i)))) [] :=
  mkCal T.g_law_worth_due T.d_l_worth_due sc_lwd (fun _ _ _ _ _ _ us hl => match us, hl with | [_, _, _, _, _], _ => rfl) (lenP fun _ => rfl) (bodyP fun cdv A outer s H E hr i B D h fin _ => by
    have hu := hu_of hr
    have cn : (i.rd.map (·.1)).Nodup := h.pc.cn
    have cl : i.rd.length < 64 := h.pc.cl
    refine Sj.set 5 sc_lwd.nd (Ev.call (f_lpo T) hr (by decide) i.q trivial (As.cons (Ev.v 2 rfl) As.nil)) ?_
    refine Sj.never (Tv.isN (Ev.v 5 rfl) (bb := false) q_ref) ?_
    refine Sj.two (Γe := [some (tyTb K i.tb), some (tyCh K i.cg), some (tySh (CShare K) i.q), some (tyD (vmap tyI i.wt)), some (tyRd i.rd), some (tyQ (min i.q 1)), none, none, none, none]) (We := []) ?_ fun hre => ?_
    · refine Sj.newD 6 sc_lwd.nd fun q => ?_
      refine Sj.forD (fs := vmap tyLs i.rd) (xs := i.rd) (Rx := fun p => tyS p.1) rfl PassesOwn.never (fun d => [some (tyTb K i.tb), some (tyCh K i.cg), some (tySh (CShare K) i.q), some (tyD (vmap tyI i.wt)), some (tyP d), some (tyQ (min i.q 1)), some (tyP q), none, none, none]) (fun σ C sl => ?_) (fun B' d ob ks hg hk => ?_) (fun x => gName 7 sc_lwd.nd)
        (fun n => [some (tyTb K i.tb), some (tyCh K i.cg), some (tySh (CShare K) i.q), some (tyD (vmap tyI i.wt)), some (tyRd i.rd), some (tyQ (min i.q 1)), some (tyP q), none, none, none]) (fun n => [(q, cD (vmap tyLs (i.rd.take n)))]) (Ws.refl _) (Wc.refl _) (fun B' D' hfin Bk n p hn => ?_) ?_
      · obtain ⟨d, ks, h1, h2, h3⟩ := slot_dict sl (i := 4) rfl
        exact ⟨d, ks, h1, h2, h3⟩
      · have e : (i.rd.map fun p => tyS p.1) = (vmap tyLs i.rd).map fun q => tyS q.1 := by unfold vmap; rw [List.map_map]; rfl
        rw [e]
        exact Iv.keys (Ev.v 4 rfl) hg hk
      · have hpm := List.mem_of_getElem? hn
        have hk : p.1 ∈ i.rd.map (·.1) := List.mem_map.mpr ⟨p, hpm, rfl⟩
        have ht : i.rd.take (n + 1) = i.rd.take n ++ [p] := by rw [List.take_succ, hn]; rfl
        have hnew : p.1 ∉ (vmap tyLs (i.rd.take n)).map (·.1) := fun hm => by
          rw [vmap_keys] at hm
          have nd := cn
          rw [← List.take_append_drop (n + 1) i.rd, ht, List.map_append, List.map_append] at nd
          exact (List.nodup_append.mp (List.nodup_append.mp nd).1).2.2 _ hm p.1 (by simp) rfl
        refine Sj.dput 0 hu (listL T.f_list (Lv.core (dgetE (Lv.core (Ev.v 4 rfl)) (Ev.v 7 rfl) (rd_get hk) hu))) (Ev.v 6 rfl) rfl (Ev.v 7 rfl) (by rw [List.length_map, List.length_take]; exact small1000 (by omega)) (Sj.at (.k (.k (.k (.k (.k (.k (.k (.d (.d (.d .n)))))))))) (.c (fun o C r => ?_) .n))
        have e : vmap tyLs (i.rd.take (n + 1)) = MJ.dput (vmap tyLs (i.rd.take n)) p.1 (tyLs (chG i.rd p.1)) := by
          rw [dput_new hnew, ht, chG_mem cn hpm]
          unfold vmap
          rw [List.map_append]; rfl
        show (cD (vmap tyLs (i.rd.take (n + 1)))).r o C
        rw [e]; exact r
      rw [List.take_length]
      refine Sj.freeze 0 6 rfl rfl ?_
      have sm : Sm (pcW (wdP i)) := by
        have := pc_sm h.pc (wdP i).wt.length (arF (wdP i).ch).length
        rwa [List.take_length, List.take_length] at this
      refine Sj.set 8 sc_lwd.nd (Ev.call (f_lpc T) hr (by decide) (wdP i) h.pc (As.cons (Ev.eq (Ev.call (f_prices T) hr (by decide) (wdS i) h.ws (As.cons (Ev.v 0 rfl) (As.cons (Ev.v 1 rfl) (As.cons (Ev.v 2 rfl) As.nil)))) (by rw [show tbK (wdS i).1 = srt ((wdP i).wt.map (·.1)) from h.tt, show srt (dst (flT (wdS i).2.1)) = srt (arF (wdP i).ch) from h.rr]; rfl)) (As.cons (Ev.v 3 rfl) (As.cons (Ev.v 6 rfl) (As.cons (Ev.v 5 rfl) As.nil))))) ?_
      refine Sj.set 9 sc_lwd.nd (Ev.call (f_worth T) hr (by decide) (wdS i) h.ws (As.cons (Ev.v 0 rfl) (As.cons (Ev.v 1 rfl) (As.cons (Ev.v 2 rfl) As.nil)))) ?_
      refine Sj.never (Tv.is (Tv.w (Wv.or (Tv.isN (Ev.v 8 rfl) (bb := false) q_ref) fun _ => Wv.or1 (Tv.notD (Tv.val (Ev.call (f_lish T) hr (by decide) (wsW (wdS i), (pcW (wdP i)).num, ((pcW (wdP i)).den : Int)) ⟨den_pos _, lb_mono sm.d (by decide)⟩ (As.cons (Ev.v 9 rfl) (As.cons (ixt (Lv.core (Ev.v 8 rfl)) Ev.int rfl) (As.cons (ixt (Lv.core (Ev.v 8 rfl)) Ev.int rfl) As.nil)))))))) ?_) ?_
      · show (false || !decide (wsW (wdS i) = rq (pcW (wdP i)).num (pcW (wdP i)).den)) = false
        rw [rq_self, h.cost, decide_eq_true rfl]; rfl
      · refine Sj.ret (Ev.v 8 rfl) fin (fun v C r => ?_) .n
        rw [h.cost] at r; exact r
    · refine Sj.if_ (Tv.gt (ixt (Lv.core (Ev.v 5 rfl)) Ev.int rfl) (ixt (Lv.core (Ev.v 5 rfl)) Ev.int rfl)) (fun hz => ?_) (fun hz => Sj.go (fun σ C H S => hre σ C H (S.ws (.k (.k (.k (.k (.k (.c (fun v C r => ?_) (.k (.k (.k (.k .n)))))))))) (Wc.refl _))) rfl)
      · refine Sj.set (R := tyQ (min i.q 1)) 5 sc_lwd.nd (Ev.eq (Ev.tup (As.cons Ev.int (As.cons Ev.int As.nil))) ?_) (Sj.go hre rfl)
        rw [min_gt (of_decide_eq_true hz.symm)]; rfl
      · rw [min_ngt (of_decide_eq_false hz.symm)]; exact r)
/-! keys_of -/
theorem Ev.isMk {X : Cx} {B : Bs} {Γ : Gm} {W : Wl} {a : Expr} {p p2 pos : Pos} {es : List En} (T : Tx X.K X.mg) (h : Ev X B Γ W a (tyMk X.K es)) (hg : Gl X "isinstance" := by rfl) (hg2 : Gl X "Marking" := by rfl) (he : starEach [a, .Name "Marking" p2] X.env = (false, eval a X.env) :: starEach [.Name "Marking" p2] X.env := by rfl) (he2 : starEach [.Name "Marking" p2] X.env = (false, eval (.Name "Marking" p2) X.env) :: starEach [] X.env := by rfl)
    (hpl : (backTo pos (starEach [.Name "Marking" p2] X.env)).any (·.1) = false := by rfl) : Ev X B Γ W (.Call (.Name "isinstance" p) [a, .Name "Marking" p2] [] pos) (tyB true) :=
  isC T.f_isinstance h (Ev.glob T.gMarking rfl hg2) (iMarking T) hg he he2 hpl
structure KoPre (i : List En × List Str) : Prop where
  l1 : i.1.length ≤ 2 * i.2.length
  l2 : i.2.length ≤ 64
  ok : ∀ e ∈ i.1, 1 ≤ e.1 ∧ e.2.1 ∈ i.2
abbrev NKo : List Str := ["_law_marking", "_law_pool_here", "_law_entries_here", "_law_entry"]
theorem sc_lko : FnScope NKo ["_law_marking", "_law_pool_here"] (defScope s_l_keys_of) := ⟨rfl, rfl, rfl, by decide +kernel, rfl, by decide +kernel, by decide +kernel⟩
theorem f_lko (T : Tx K mg) : C8.Cal P w K mg base 2 "_law_keys_of" (spP KoPre (fun i => [tyMk K i.1, tyLs i.2]) (fun i => tyEns false i.1)) [] :=
  mkCal T.g_law_keys_of T.d_l_keys_of sc_lko (fun _ _ _ _ _ _ us hl => match us, hl with | [_, _], _ => rfl) (lenP fun _ => rfl) (bodyP fun cdv A outer s H E hr i B D h fin _ => by
    obtain ⟨es, pool⟩ := i
    have l1 : es.length ≤ 2 * pool.length := h.l1
    have l2 : pool.length ≤ 64 := h.l2
    refine Sj.never (Tv.is (Tv.w (Wv.or (Tv.notD (Tv.val (Ev.isMk T (Ev.v 0 rfl)))) fun _ => Wv.or (Tv.notD (Tv.val (Ev.isTup T (Ev.entries T (Ev.v 0 rfl))))) fun _ => Wv.or1 (Tv.gt (lenT T.f_len (Lv.core (Ev.entries T (Ev.v 0 rfl)))) (Ev.mulC Ev.int (lenL T.f_len (Lv.core (Ev.v 1 rfl))) (.inl (by decide)))))) ?_) ?_
    · rw [List.length_map, List.length_map, decide_eq_false (by show ¬ (2 : Int) * (pool.length : Int) < (es.length : Int); omega)]; rfl
    refine Sj.newL 2 sc_lko.nd fun q => ?_
    refine Sj.for_ (xs := es) (Rx := enY) rfl PassesOwn.never (Iv.tup (Ev.entries T (Ev.v 0 rfl))) (fun x => gName 3 sc_lko.nd)
      (fun n => [some (tyMk K es), some (tyLs pool), some (tyP q), none]) (fun n => [(q, cLst ((es.take n).map (enLw false)))]) (.k (.k (.k (.d .n)))) (Wc.refl _) (fun B' _ _ _ n e hn => ?_) ?_
    · obtain ⟨k1, k2⟩ := h.ok e (List.mem_of_getElem? hn)
      have k2 : e.2.1 ∈ pool := k2
      refine Sj.never (Tv.is (Tv.w (Wv.or (Tv.notD (Tv.val (Ev.isTup T (Ev.v 3 rfl)))) fun _ => Wv.or (Tv.neI (lenT T.f_len (Lv.core (Ev.v 3 rfl))) Ev.int) fun _ => Wv.or1 (Tv.notD (Tv.val (Ev.isTup T (ixt (Lv.core (Ev.v 3 rfl)) Ev.int rfl)))))) rfl) ?_
      refine Sj.never (Tv.is (Tv.w (Wv.or (Tv.notD (Tv.val (Ev.call (f_liw T) hr (by decide) e.1 trivial (As.cons (ixt (Lv.core (Ev.v 3 rfl)) Ev.int rfl) As.nil)))) fun _ => Wv.or (Tv.lt (ixt (Lv.core (Ev.v 3 rfl)) Ev.int rfl) Ev.int) fun _ => Wv.or1 (TnotL (l := pool) (ixt (Lv.core (Ev.v 3 rfl)) Ev.int rfl) (Lv.core (Ev.v 1 rfl))))) ?_) ?_
      · rw [decide_eq_false (by omega), decide_eq_true k2]; rfl
      refine Sj.append 0 (Ev.v 2 rfl) rfl (Ev.v 3 rfl) (by rw [List.length_map, List.length_take]; exact small1000 (by omega)) (Sj.at (.k (.k (.k (.d .n)))) (.c (fun o C r => ?_) .n))
      have e : (es.take (n + 1)).map (enLw false) = (es.take n).map (enLw false) ++ [enY e] := by
        rw [List.take_succ, hn, List.map_append]; rfl
      show (cLst ((es.take (n + 1)).map (enLw false))).r o C
      rw [e]; exact r
    · rw [List.take_length]
      exact Sj.freeze 0 2 rfl rfl (Sj.ret (Ev.v 2 rfl) fin (fun v C r => r) .n))
end
end MF
set_option maxHeartbeats 4000000
/-! the law's defs: best_fits. -/
namespace MF
open PySem PySem.Spec L2 MT MJ
open PyProof.Rows hiding St
open MK (rsum)
structure BfI where
  wd : WdI
  pool : List Str
noncomputable abbrev bfE (i : BfI) : List En := bmE (wdS i.wd)
noncomputable abbrev bfW (i : BfI) : Rat := wsW (wdS i.wd)
structure BfPre (i : BfI) : Prop where
  wd : WdPre i.wd
  bm : BmPre (wdS i.wd)
  ko : KoPre (bfE i, i.pool)
  lw : LwIn (false, bfE i, i.wd.rd)
  bd : BdOk (i.wd.cg, bfE i)
  fnd : lkF i.wd.rd (bfE i) * (bfW i).den = (bfW i).num * mkS (bfE i)
  bld : lbF i.wd.rd (bfE i) * (bfW i).den = (bfW i).num * mkS (bfE i)
  fsh : rq (fsF i.wd.cg (bfE i)) (mkS (bfE i)) = bfW i
  bsh : rs (bdL (i.wd.cg, bfE i)) = bfW i
  l1 : Lb 4000 (lkF i.wd.rd (bfE i))
  l2 : Lb 4000 (lbF i.wd.rd (bfE i))
  sm : Sm (bfW i)
section
variable {P : Program} {w : World} {K : PySem.W.Frag} {mg : Str → Option Value} {base : Heap}
abbrev NBf : List Str := ["_law_table", "_law_changes", "_law_level", "_law_weights_here", "_law_pool_here", "_law_readable", "_law_due", "_law_marking", "_law_entries_here", "_law_full", "_law_met", "_law_entry"]
theorem sc_lbf : FnScope NBf ["_law_table", "_law_changes", "_law_level", "_law_weights_here", "_law_pool_here", "_law_readable"] (defScope s_l_best_fits) := ⟨rfl, rfl, rfl, by decide +kernel, rfl, by decide +kernel, by decide +kernel⟩
theorem e_ref {b : Bool} {es : List En} (v : V) (C : Hp) (h : (tyEns b es).r v C) : decide (v = .non) = false := by
  obtain ⟨p, o, rfl, _⟩ := h; rfl
theorem f_lbf (T : Tx K mg) : C8.Cal P w K mg base 10 "_law_best_fits" (spP BfPre (fun i => [tyTb K i.wd.tb, tyCh K i.wd.cg, tySh (CShare K) i.wd.q, tyD (vmap tyI i.wd.wt), tyLs i.pool, tyRd i.wd.rd]) (fun _ => tyB true)) [] :=
  mkCal T.g_law_best_fits T.d_l_best_fits sc_lbf (fun _ _ _ _ _ _ us hl => match us, hl with | [_, _, _, _, _, _], _ => rfl) (lenP fun _ => rfl) (bodyP fun cdv A outer s H E hr i B D h fin _ => by
    have hu := hu_of hr
    have hsm := h.sm
    have hel : (bfE i).length ≤ 64 := h.lw.el
    refine Sj.set 6 sc_lbf.nd (Ev.call (f_lwd T) hr (by decide) i.wd h.wd (As.cons (Ev.v 0 rfl) (As.cons (Ev.v 1 rfl) (As.cons (Ev.v 2 rfl) (As.cons (Ev.v 3 rfl) (As.cons (Ev.v 5 rfl) As.nil)))))) ?_
    refine Sj.set 7 sc_lbf.nd (Ev.call (f_bmark T) hr (by decide) (wdS i.wd) h.bm (As.cons (Ev.v 0 rfl) (As.cons (Ev.v 1 rfl) (As.cons (Ev.v 2 rfl) As.nil)))) ?_
    refine Sj.set 8 sc_lbf.nd (Ev.call (f_lko T) hr (by decide) (bfE i, i.pool) h.ko (As.cons (Ev.v 7 rfl) (As.cons (Ev.v 4 rfl) As.nil))) ?_
    refine Sj.never (Tv.is (Tv.w (Wv.or (Tv.isN (Ev.v 6 rfl) (bb := false) q_ref) fun _ => Wv.or1 (Tv.isN (Ev.v 8 rfl) (bb := false) e_ref))) rfl) ?_
    refine Sj.set (R := tyI (mkS (bfE i))) 9 sc_lbf.nd (sumL (xs := bfE i) (g := fun e => e.1) rfl T.f_sum (Ev.lc (xs := bfE i) (Rx := enLw false) (Ro := fun e => tyI e.1) [("_law_entry", 11)] rfl sc_lbf.nd (Iv.list (Ev.v 8 rfl)) (blkOk_by (N := NBf) (sc := defScope s_l_best_fits) (by decide +kernel)) (fun x s0 H0 Cc cl fp => gName 11 sc_lbf.nd) (by decide) (small1000 (by omega)) (fun e he s0 H0 Cc cl fp D K => ixt (Lv.core (Ev.v 11 rfl)) Ev.int rfl))) ?_
    have hms : Lb 4000 (mkS (bfE i)) := h.bd.jd.sb
    refine Sj.for_ (xs := [lbF i.wd.rd (bfE i), lkF i.wd.rd (bfE i)]) (Rx := tyI) rfl PassesOwn.never (Iv.list (Ev.lst (As.cons (Ev.call (f_lbl T) hr (by decide) (false, bfE i, i.wd.rd) h.lw (As.cons (Ev.v 8 rfl) (As.cons (Ev.v 5 rfl) As.nil))) (As.cons (Ev.call (f_lfd T) hr (by decide) (false, bfE i, i.wd.rd) h.lw (As.cons (Ev.v 8 rfl) (As.cons (Ev.v 5 rfl) As.nil))) As.nil)))) (fun x => gName 10 sc_lbf.nd)
      (fun _ => [none, some (tyCh K i.wd.cg), none, none, none, none, some (tyQ (bfW i)), some (tyMk K (bfE i)), none, some (tyI (mkS (bfE i))), none, none]) (fun _ => []) (.d (.k (.d (.d (.d (.d (.k (.k (.d (.k (.d (.d .n)))))))))))) .n (fun B' _ _ _ n x hn => ?_) ?_
    · have hx : x * ((bfW i).den : Int) = (bfW i).num * mkS (bfE i) ∧ Lb 4000 x := by
        rcases List.mem_cons.mp (List.mem_of_getElem? hn) with rfl | hm
        · exact ⟨h.bld, h.l2⟩
        · rw [List.mem_singleton.mp hm]; exact ⟨h.fnd, h.l1⟩
      refine Sj.never (Tv.is (Tv.neI (Ev.mul (Ev.v 10 rfl) (ixt (Lv.core (Ev.v 6 rfl)) Ev.int rfl) (sm_mul hx.2 hsm.d)) (Ev.mul (ixt (Lv.core (Ev.v 6 rfl)) Ev.int rfl) (Ev.v 9 rfl) (sm_mul hsm.n hms))) ?_) (Sj.at (.k (.k (.k (.k (.k (.k (.k (.k (.k (.k (.d (.k .n)))))))))))) .n)
      rw [decide_eq_true hx.1]; rfl
    refine Sj.never (Tv.is (Tv.notD (Tv.val (Ev.call (f_lish T) hr (by decide) (rq (fsF i.wd.cg (bfE i)) (mkS (bfE i)), (bfW i).num, ((bfW i).den : Int)) ⟨den_pos _, lb_mono hsm.d (by decide)⟩ (As.cons (Ev.call (f_found T) hr (by decide) (i.wd.cg, bfE i) h.bd.jd (As.cons (Ev.v 1 rfl) (As.cons (Ev.v 7 rfl) As.nil))) (As.cons (ixt (Lv.core (Ev.v 6 rfl)) Ev.int rfl) (As.cons (ixt (Lv.core (Ev.v 6 rfl)) Ev.int rfl) As.nil)))))) ?_) ?_
    · show (!decide (rq (fsF i.wd.cg (bfE i)) (mkS (bfE i)) = rq (bfW i).num (bfW i).den)) = false
      rw [rq_self, h.fsh, decide_eq_true rfl]; rfl
    refine Sj.ret (Ev.call (f_lish T) hr (by decide) (rs (bdL (i.wd.cg, bfE i)), (bfW i).num, ((bfW i).den : Int)) ⟨den_pos _, lb_mono hsm.d (by decide)⟩ (As.cons (Ev.call (f_blind T) hr (by decide) (i.wd.cg, bfE i) h.bd (As.cons (Ev.v 1 rfl) (As.cons (Ev.v 7 rfl) As.nil))) (As.cons (ixt (Lv.core (Ev.v 6 rfl)) Ev.int rfl) (As.cons (ixt (Lv.core (Ev.v 6 rfl)) Ev.int rfl) As.nil)))) fin (fun v C r => ?_) .n
    have e : decide (rs (bdL (i.wd.cg, bfE i)) = rq (bfW i).num (bfW i).den) = true := by rw [rq_self, h.bsh]; exact decide_eq_true rfl
    show v = V.bl true
    rw [← e]; exact r)
end
end MF
set_option maxHeartbeats 4000000
/-! the law's mathematics: sums, least and greatest. -/
namespace MF
open PySem PySem.Spec L2 MT MJ
open PyProof.Rows hiding St
open MK (rsum rsum_congr rsum_map rsum_filter rsum_comm rsum_le rsum_zero rsum_nonneg rsum_append rsum_perm rsum_sub rsum_mul rsum_mem_le rsum_add)
theorem sum_q : ∀ l : List Int, ((l.sum : Int) : Rat) = rsum l fun x => (x : Rat)
  | [] => rfl
  | a :: l => by
    rw [List.sum_cons, Rat.intCast_add, sum_q l]; rfl
theorem fsum_q {α : Type} (p : α → Bool) (g : α → Int) (l : List α) : ((((l.filter p).map g).sum : Int) : Rat) = rsum l fun e => if p e = true then (g e : Rat) else 0 := by
  rw [sum_q, rsum_map, rsum_filter]
theorem mkS_q (E : List En) : ((mkS E : Int) : Rat) = rsum E fun e => (e.1 : Rat) := by unfold mkS; rw [sum_q, rsum_map]
theorem awT_q (E : List En) (t o : Str) : ((awT E t o : Int) : Rat) = rsum E fun e => if (decide (e.2.1 = t) && decide (o ∈ e.2.2)) = true then (e.1 : Rat) else 0 := fsum_q _ _ _
theorem awS_q (E : List En) (o : Str) : ((awS E o : Int) : Rat) = rsum E fun e => if decide (o ∈ e.2.2) = true then (e.1 : Rat) else 0 := fsum_q _ _ _
theorem lk_sum (ch : Chs) (E : List En) : lkF ch E = ((E.filter (lkP ch)).map (·.1)).sum := by
  have go : ∀ (E : List En) (n : Int), E.foldl (lk1 ch) n = n + ((E.filter (lkP ch)).map (·.1)).sum := by
    intro E
    induction E with
    | nil => intro n; simp
    | cons e E ih =>
      intro n
      show E.foldl (lk1 ch) (lk1 ch n e) = _
      rw [ih]
      unfold lk1
      cases h : lkP ch e
      · rw [List.filter_cons_of_neg (by rw [h]; decide)]; rfl
      · rw [List.filter_cons_of_pos h]
        simp
        omega
  have := go E 0
  rwa [Int.zero_add] at this
theorem lkF_q (ch : Chs) (E : List En) : ((lkF ch E : Int) : Rat) = rsum E fun e => if lkP ch e = true then (e.1 : Rat) else 0 := by rw [lk_sum]; exact fsum_q _ _ _
theorem lb_sum (ch : Chs) (E : List En) : lbF ch E = (ch.map fun r => lbT ch E r.1).sum := by
  have go : ∀ (l : Chs) (n : Int), l.foldl (lb2 ch E) n = n + (l.map fun r => lbT ch E r.1).sum := by
    intro l
    induction l with
    | nil => intro n; simp
    | cons r l ih =>
      intro n
      show l.foldl (lb2 ch E) (lb2 ch E n r) = _
      rw [ih]
      unfold lb2
      simp
      omega
  have := go ch 0
  rwa [Int.zero_add] at this
theorem lbF_q (ch : Chs) (E : List En) : ((lbF ch E : Int) : Rat) = rsum (ch.map (·.1)) fun t => ((lbT ch E t : Int) : Rat) := by rw [lb_sum, sum_q, rsum_map, rsum_map]
theorem cast_le {a b : Int} (h : (a : Rat) ≤ (b : Rat)) : a ≤ b := Rat.intCast_le_intCast.mp h
theorem cast_le' {a b : Int} (h : a ≤ b) : (a : Rat) ≤ (b : Rat) := Rat.intCast_le_intCast.mpr h
theorem cast_inj {a b : Int} (h : (a : Rat) = (b : Rat)) : a = b := Int.le_antisymm (cast_le (h ▸ Rat.le_refl)) (cast_le (h ▸ Rat.le_refl))
/-! entries of positive weight -/
abbrev Ps (E : List En) : Prop := ∀ e ∈ E, 1 ≤ e.1
theorem Ps.q {E : List En} (h : Ps E) {e : En} (he : e ∈ E) : (0 : Rat) ≤ (e.1 : Rat) := MK.cast_nn (by have := h e he; omega)
theorem awT_nn {E : List En} (h : Ps E) (t o : Str) : 0 ≤ awT E t o := cast_le (by
  rw [awT_q]
  exact rsum_nonneg _ fun e he => by split; exact h.q he; exact Rat.le_refl)
theorem awS_nn {E : List En} (h : Ps E) (o : Str) : 0 ≤ awS E o := cast_le (by
  rw [awS_q]
  exact rsum_nonneg _ fun e he => by split; exact h.q he; exact Rat.le_refl)
theorem awT_awS {E : List En} (h : Ps E) (t o : Str) : awT E t o ≤ awS E o := cast_le (by
  rw [awT_q, awS_q]
  refine rsum_le _ fun e he => ?_
  have := h.q he
  by_cases h1 : o ∈ e.2.2
  · rw [decide_eq_true h1]
    split
    · exact Rat.le_refl
    · rw [if_pos rfl]; exact this
  · rw [decide_eq_false h1, Bool.and_false]; exact Rat.le_refl)
/-! the least over a list -/
structure IsMn (S : List Str) (f : Str → Int) (m : Int) : Prop where
  at_ : ∃ o ∈ S, m = f o
  le : ∀ o ∈ S, m ≤ f o
theorem IsMn.uniq {S T : List Str} {f : Str → Int} {m n : Int} (h1 : IsMn S f m) (h2 : IsMn T f n) (h : ∀ x, x ∈ S ↔ x ∈ T) : m = n := by
  obtain ⟨a, ha, ea⟩ := h1.at_
  obtain ⟨b, hb, eb⟩ := h2.at_
  have l1 := h1.le b ((h b).mpr hb)
  have l2 := h2.le a ((h a).mp ha)
  omega
theorem mn_map {S : List Str} {f : Str → Int} (h : S ≠ []) : IsMn S f (mnL (S.map f)) := by
  obtain ⟨h1, h2⟩ := mnL_ok (l := S.map f) (by simpa using h)
  obtain ⟨o, ho, e⟩ := List.mem_map.mp h1
  exact ⟨⟨o, ho, e.symm⟩, fun o ho => h2 _ (List.mem_map.mpr ⟨o, ho, rfl⟩)⟩
theorem lb_go {E : List En} (hE : Ps E) (t : Str) : ∀ (l : List Str) (m : Int), 0 ≤ m → (l.foldl (lb1 E t) m = m ∨ ∃ o ∈ l, l.foldl (lb1 E t) m = awT E t o) ∧ l.foldl (lb1 E t) m ≤ m ∧ ∀ o ∈ l, l.foldl (lb1 E t) m ≤ awT E t o
  | [], m, _ => ⟨.inl rfl, Int.le_refl _, fun o h => absurd h List.not_mem_nil⟩
  | x :: l, m, hm => by
    have h0 := awT_nn hE t x
    have hs : lb1 E t m x = m ∧ m ≤ awT E t x ∨ lb1 E t m x = awT E t x ∧ awT E t x < m := by
      unfold lb1
      rw [decide_eq_false (show ¬ m = -1 by omega), Bool.false_or]
      by_cases h : awT E t x < m
      · rw [if_pos (decide_eq_true h)]; exact .inr ⟨rfl, h⟩
      · rw [if_neg (by rw [decide_eq_false h]; decide)]; exact .inl ⟨rfl, by omega⟩
    have hn : 0 ≤ lb1 E t m x := by rcases hs with ⟨a, b⟩ | ⟨a, b⟩ <;> omega
    obtain ⟨i1, i2, i3⟩ := lb_go hE t l (lb1 E t m x) hn
    have e : (x :: l).foldl (lb1 E t) m = l.foldl (lb1 E t) (lb1 E t m x) := rfl
    rw [e]
    refine ⟨?_, ?_, fun o ho => ?_⟩
    · rcases i1 with i1 | ⟨o, ho, i1⟩
      · rcases hs with ⟨a, b⟩ | ⟨a, b⟩
        · left; omega
        · right; exact ⟨x, List.mem_cons_self, by omega⟩
      · exact .inr ⟨o, List.mem_cons_of_mem _ ho, i1⟩
    · rcases hs with ⟨a, b⟩ | ⟨a, b⟩ <;> omega
    · rcases List.mem_cons.mp ho with rfl | ho
      · rcases hs with ⟨a, b⟩ | ⟨a, b⟩ <;> omega
      · exact i3 o ho
theorem lbT_mn {ch : Chs} {E : List En} (hE : Ps E) {t : Str} (h : chG ch t ≠ []) : IsMn (chG ch t) (awT E t) (lbT ch E t) := by
  unfold lbT
  cases z : chG ch t with
  | nil => exact absurd z h
  | cons x l =>
    have e : lb1 E t (-1) x = awT E t x := by unfold lb1; rw [decide_eq_true rfl]; rfl
    show IsMn (x :: l) (awT E t) (l.foldl (lb1 E t) (lb1 E t (-1) x))
    rw [e]
    obtain ⟨i1, i2, i3⟩ := lb_go hE t l (awT E t x) (awT_nn hE t x)
    refine ⟨?_, fun o ho => ?_⟩
    · rcases i1 with i1 | ⟨o, ho, i1⟩
      · exact ⟨x, List.mem_cons_self, i1⟩
      · exact ⟨o, List.mem_cons_of_mem _ ho, i1⟩
    · rcases List.mem_cons.mp ho with rfl | ho
      · exact i2
      · exact i3 o ho
/-! the program's least found -/
theorem lf1_map {w : Int} {ks : List Str} (nd : ks.Nodup) (f : Str → Int) (r : Str) : lf1 w (ks.map fun k => (k, f k)) r = ks.map fun k => (k, f k + if k = r then w else 0) := by
  have hk : (ks.map fun k => (k, f k)).map (·.1) = ks := by rw [List.map_map]; exact List.map_id ks
  unfold lf1
  rw [hk]
  by_cases h : r ∈ ks
  · rw [if_pos h]
    have hw : tbW (ks.map fun k => (k, f k)) r = f r := by
      unfold tbW
      rw [dget_mem (a := f r) (by rw [hk]; exact nd) (List.mem_map.mpr ⟨r, h, rfl⟩)]; rfl
    rw [hw]
    unfold MJ.dput
    rw [if_pos (List.any_eq_true.mpr ⟨(r, f r), List.mem_map.mpr ⟨r, h, rfl⟩, by simp⟩), List.map_map]
    refine List.map_congr_left fun k _ => ?_
    show (if k = r then (k, f r + w) else (k, f k)) = _
    by_cases e : k = r
    · subst e; simp
    · simp [e]
  · rw [if_neg h]
    refine List.map_congr_left fun k hk => ?_
    rw [if_neg (fun e : k = r => h (e ▸ hk)), Int.add_zero]
theorem lfl_map {w : Int} {ks : List Str} (nd : ks.Nodup) : ∀ (l : List Str) (f : Str → Int), l.Nodup → l.foldl (lf1 w) (ks.map fun k => (k, f k)) = ks.map fun k => (k, f k + if k ∈ l then w else 0)
  | [], f, _ => by
    show (ks.map fun k => (k, f k)) = _
    refine List.map_congr_left fun k _ => ?_
    simp
  | r :: l, f, hl => by
    rw [List.nodup_cons] at hl
    show l.foldl (lf1 w) (lf1 w _ r) = _
    rw [lf1_map nd, lfl_map nd l _ hl.2]
    refine List.map_congr_left fun k _ => ?_
    by_cases h1 : k = r
    · subst h1; simp [hl.1]
    · simp [h1]
theorem awT_snoc (E : List En) (e : En) (t o : Str) : awT (E ++ [e]) t o = awT E t o + if e.2.1 = t then (if o ∈ e.2.2 then e.1 else 0) else 0 := by
  unfold awT
  rw [List.filter_append, List.map_append, List.sum_append]
  congr 1
  by_cases h1 : e.2.1 = t
  · by_cases h2 : o ∈ e.2.2
    · simp [h1, h2]
    · simp [h1, h2]
  · simp [h1]
theorem lfM_map {ch : Chs} {t : Str} : ∀ {E : List En}, (∀ e ∈ E, e.2.2.Nodup) → lfM ch E t = (kf (chG ch t)).map fun k => (k, awT E t k) := fun {E} => by
  refine snocI (P := fun E : List En => (∀ e ∈ E, e.2.2.Nodup) → lfM ch E t = (kf (chG ch t)).map fun k => (k, awT E t k)) (fun _ => rfl) (fun l e ih h => ?_) E
  have ih := ih fun e he => h e (List.mem_append_left _ he)
  have nd := (kf_ok (chG ch t)).1
  have e1 : lfM ch (l ++ [e]) t = lf2 t (lfM ch l t) e := by unfold lfM; rw [List.foldl_append]; rfl
  rw [e1, ih]
  unfold lf2
  by_cases h1 : e.2.1 = t
  · rw [if_pos h1, lfl_map nd _ _ (h e (by simp))]
    refine List.map_congr_left fun k _ => ?_
    rw [awT_snoc, if_pos h1]
  · rw [if_neg h1]
    refine List.map_congr_left fun k _ => ?_
    rw [awT_snoc, if_neg h1, Int.add_zero]
theorem lfF_mn {ch : Chs} {E : List En} (hn : ∀ e ∈ E, e.2.2.Nodup) {t : Str} (h : chG ch t ≠ []) : IsMn (chG ch t) (awT E t) (lfF ch E t) := by
  unfold lfF
  rw [lfM_map hn, List.map_map]
  obtain ⟨k1, k2, k3⟩ := kf_ok (chG ch t)
  have hne : kf (chG ch t) ≠ [] := fun z => by
    cases y : chG ch t with
    | nil => exact h y
    | cons a l =>
      have := (k2 a).mpr (by rw [y]; exact List.mem_cons_self)
      rw [z] at this; cases this
  have m := mn_map (f := awT E t) hne
  exact ⟨let ⟨o, ho, e⟩ := m.at_; ⟨o, (k2 o).mp ho, e⟩, fun o ho => m.le o ((k2 o).mpr ho)⟩
end MF
set_option maxHeartbeats 4000000
/-! the law's mathematics: the case's changes; found and blind of entries. -/
namespace MF
open PySem PySem.Spec L2 MT MJ
open PyProof.Rows hiding St
open MK (rsum rsum_congr rsum_map rsum_filter rsum_comm rsum_le rsum_zero rsum_nonneg rsum_append rsum_perm rsum_sub rsum_mul rsum_mem_le rsum_add)
/-! ### the changes -/
theorem chF_get (rows : Chs) (t : Str) : dget (chF rows) t = (dget rows t).map fun l => srt (dst (t :: l)) := by
  induction rows with
  | nil => rfl
  | cons r rows ih =>
    show dget ((r.1, srt (dst (r.1 :: r.2))) :: chF rows) t = _
    rw [dget_cons, dget_cons, ih]
    by_cases h : r.1 = t
    · rw [if_pos h, if_pos h, ← h]; rfl
    · rw [if_neg h, if_neg h]
theorem chG_out {ch : Chs} {t : Str} (h : t ∉ ch.map (·.1)) : chG ch t = [] := by
  unfold chG
  rw [dget_none.mpr h]; rfl
theorem cg_mem {c : Cs} (hc : CsOk c) {t : Str} (ht : t ∈ c.1) : (chG (chF c.2.2) t).Nodup ∧ ∀ x, x ∈ chG (chF c.2.2) t ↔ x ∈ chG c.2.2 t := by
  have h1 := chG_of (show t ∈ c.2.2.map (·.1) by rw [hc.rk]; exact ht)
  have e : chG (chF c.2.2) t = srt (dst (t :: chG c.2.2 t)) := by
    unfold chG at h1 ⊢
    rw [chF_get, h1]; rfl
  rw [e]
  refine ⟨srt_nodup (dst_nodup _), fun x => ?_⟩
  rw [srt_mem, dst_mem, List.mem_cons]
  exact ⟨fun z => z.elim (fun z => z ▸ (chG_ok hc ht).own) id, .inr⟩
theorem cg_perm {c : Cs} (hc : CsOk c) {t : Str} (ht : t ∈ c.1) : (chG (chF c.2.2) t).Perm (chG c.2.2 t) := let ⟨a, b⟩ := cg_mem hc ht; nodup_perm a (chG_ok hc ht).nd b
theorem cg_keys (c : Cs) : (chF c.2.2).map (·.1) = c.2.2.map (·.1) := chF_keys _
theorem rd_len {c : Cs} (hc : CsOk c) (t : Str) : (chG c.2.2 t).Nodup ∧ (chG c.2.2 t).length ≤ 16 := by
  by_cases ht : t ∈ c.1
  · have := chG_ok hc ht
    exact ⟨this.nd, Nat.le_trans (nd_sub_len this.nd this.sub) hc.ol⟩
  · rw [chG_out (by rw [hc.rk]; exact ht)]; exact ⟨List.nodup_nil, Nat.zero_le _⟩
theorem cg_len {c : Cs} (hc : CsOk c) (t : Str) : (chG (chF c.2.2) t).Nodup ∧ (chG (chF c.2.2) t).length ≤ 16 := by
  by_cases ht : t ∈ c.1
  · exact ⟨(cg_mem hc ht).1, by rw [(cg_perm hc ht).length_eq]; exact (rd_len hc t).2⟩
  · rw [chG_out (by rw [cg_keys, hc.rk]; exact ht)]; exact ⟨List.nodup_nil, Nat.zero_le _⟩
theorem rd_ne {c : Cs} (hc : CsOk c) {t : Str} (ht : t ∈ c.1) : chG c.2.2 t ≠ [] := fun z => by
  have := (chG_ok hc ht).own
  rw [show chG c.2.2 t = [] from z] at this; cases this
theorem cg_ne {c : Cs} (hc : CsOk c) {t : Str} (ht : t ∈ c.1) : chG (chF c.2.2) t ≠ [] := fun z => by
  have h1 := (cg_perm hc ht).length_eq
  rw [z] at h1
  exact rd_ne hc ht (List.length_eq_zero_iff.mp h1.symm)
theorem rd_l {c : Cs} (hc : CsOk c) : c.2.2.length = c.1.length := by rw [← hc.rk, List.length_map]
theorem rd_nd {c : Cs} (hc : CsOk c) : (c.2.2.map (·.1)).Nodup := by rw [hc.rk]; exact hc.pn
theorem fl_mem {c : Cs} (hc : CsOk c) (x : Str) : x ∈ flT (chF c.2.2) ↔ ∃ r ∈ c.2.2, x ∈ r.2 := by
  show x ∈ (chF c.2.2).flatMap (·.2) ↔ _
  rw [List.mem_flatMap]
  constructor
  · rintro ⟨r', hr', hx⟩
    obtain ⟨r, hr, rfl⟩ := List.mem_map.mp hr'
    have hx : x ∈ srt (dst (r.1 :: r.2)) := hx
    rw [srt_mem, dst_mem, List.mem_cons] at hx
    exact ⟨r, hr, hx.elim (fun z => z ▸ (hc.rv r hr).own) id⟩
  · rintro ⟨r, hr, hx⟩
    exact ⟨(r.1, srt (dst (r.1 :: r.2))), List.mem_map.mpr ⟨r, hr, rfl⟩, srt_mem.mpr (dst_mem.mpr (List.mem_cons_of_mem _ hx))⟩
theorem ar_mem {c : Cs} (hc : CsOk c) : (arF c.2.2).Nodup ∧ (∀ x, x ∈ arF c.2.2 ↔ ∃ r ∈ c.2.2, x ∈ r.2) ∧ (arF c.2.2).length ≤ 16 := by
  obtain ⟨a, b⟩ := arF_ok (ch := c.2.2) fun r hr => (hc.rv r hr).nd
  exact ⟨a, b, Nat.le_trans (nd_sub_len a fun x hx => let ⟨r, hr, hx⟩ := (b x).mp hx; (hc.rv r hr).sub x hx) hc.ol⟩
theorem fl_len {c : Cs} (hc : CsOk c) : (flT (chF c.2.2)).length ≤ 1000 ∧ (dst (flT (chF c.2.2))).length < 64 := by
  constructor
  · have hl : (chF c.2.2).length ≤ 8 := by unfold chF; rw [List.length_map, rd_l hc]; exact hc.pl
    have go : ∀ l : Chs, (∀ r ∈ l, r.2.length ≤ 16) → (flT l).length ≤ 16 * l.length := by
      intro l
      induction l with
      | nil => intro _; exact Nat.le_refl _
      | cons r l ih =>
        intro h
        have h1 := ih fun r hr => h r (List.mem_cons_of_mem _ hr)
        have h2 := h r List.mem_cons_self
        show (r.2 ++ flT l).length ≤ _
        rw [List.length_append, List.length_cons]; omega
    have := go (chF c.2.2) fun r' hr' => by
      obtain ⟨r, hr, rfl⟩ := List.mem_map.mp hr'
      have h1 := cg_len hc r.1
      have h2 : chG (chF c.2.2) r.1 = srt (dst (r.1 :: r.2)) := by
        have : dget (chF c.2.2) r.1 = some (srt (dst (r.1 :: r.2))) := dget_mem (by rw [chF_keys]; exact rd_nd hc) (List.mem_map.mpr ⟨r, hr, rfl⟩)
        unfold chG; rw [this]; rfl
      rw [h2] at h1; exact h1.2
    omega
  · obtain ⟨a, b, l⟩ := ar_mem hc
    have := nd_sub_len (dst_nodup (flT (chF c.2.2))) (m := arF c.2.2) fun x hx => (b x).mpr ((fl_mem hc x).mp (dst_mem.mp hx))
    omega
theorem rr_eq {c : Cs} (hc : CsOk c) : srt (dst (flT (chF c.2.2))) = srt (arF c.2.2) := srt_congr (nodup_perm (dst_nodup _) (ar_mem hc).1 fun x => dst_mem.trans ((fl_mem hc x).trans ((ar_mem hc).2.1 x).symm))
/-! ### entries -/
structure EG (c : Cs) (E : List En) : Prop where
  len : E.length ≤ 24
  pos : Ps E
  key : ∀ e ∈ E, e.2.1 ∈ c.1
  nd : ∀ e ∈ E, e.2.2.Nodup
  al : ∀ e ∈ E, e.2.2.length < 64
  s0 : 0 < mkS E
  sb : Lb 3000 (mkS E)
section
variable {c : Cs} {E : List En}
theorem mem_le (hE : Ps E) {e : En} (he : e ∈ E) : e.1 ≤ mkS E := cast_le (by
  rw [mkS_q]
  exact rsum_mem_le (f := fun e : En => (e.1 : Rat)) (fun b hb => hE.q hb) he)
theorem EG.mo (h : EG c E) : MkOk E := ⟨by have := h.len; omega, h.pos, h.al, fun e he => lb_mono (lb_le h.sb (by have := mem_le h.pos he; have := h.pos e he; omega)) (by decide)⟩
theorem EG.jd (hc : CsOk c) (h : EG c E) : JdOk (chF c.2.2, E) := by
  refine ⟨h.mo, ?_, fun e he => ?_, h.s0, lb_mono h.sb (by decide), fun t => ?_, fun t ht => ?_⟩
  · show (chF c.2.2).length < 64
    unfold chF
    rw [List.length_map, rd_l hc]
    have := hc.pl
    omega
  · show e.2.1 ∈ (chF c.2.2).map (·.1)
    rw [chF_keys, hc.rk]; exact h.key e he
  · have := (cg_len hc t).2
    show (chG (chF c.2.2) t).length < 64
    omega
  · have ht : t ∈ (chF c.2.2).map (·.1) := ht
    rw [chF_keys, hc.rk] at ht
    exact cg_ne hc ht
theorem EG.lw (hc : CsOk c) (h : EG c E) (b : Bool) : LwIn (b, E, c.2.2) := by
  refine ⟨by have := h.len; show E.length ≤ 64; omega, fun e he => ?_, fun t => ?_, ?_, rd_nd hc⟩
  · show e.2.1 ∈ c.2.2.map (·.1)
    rw [hc.rk]; exact h.key e he
  · have := (rd_len hc t).2
    show (chG c.2.2 t).length ≤ 64
    omega
  · show c.2.2.length ≤ 64
    rw [rd_l hc]
    have := hc.pl
    omega
/-- found -/
theorem EG.fs (hc : CsOk c) (h : EG c E) : fsF (chF c.2.2) E = lkF c.2.2 E := by
  rw [lk_sum]
  unfold fsF
  congr 2
  refine List.filter_congr fun e he => ?_
  have hk := h.key e he
  unfold fsP lkP accB
  rw [Bool.eq_iff_iff, List.all_eq_true, decide_eq_true_iff]
  have hm := (cg_mem hc hk).2
  constructor
  · intro H
    rw [List.length_eq_zero_iff, List.filter_eq_nil_iff]
    intro x hx
    have := H x ((hm x).mpr hx)
    simp at this
    simp [this]
  · intro H x hx
    rw [List.length_eq_zero_iff, List.filter_eq_nil_iff] at H
    have := H x ((hm x).mp hx)
    simpa using this
/-- the least, by the program and by the law -/
theorem EG.lt (hc : CsOk c) (h : EG c E) {t : Str} (ht : t ∈ c.1) : lfF (chF c.2.2) E t = lbT c.2.2 E t :=
  (lfF_mn h.nd (cg_ne hc ht)).uniq (lbT_mn h.pos (rd_ne hc ht)) (cg_mem hc ht).2
theorem lb_nn (hE : Ps E) (hc : CsOk c) {t : Str} (ht : t ∈ c.1) : 0 ≤ lbT c.2.2 E t := by
  obtain ⟨o, _, e⟩ := (lbT_mn hE (rd_ne hc ht)).at_
  rw [e]; exact awT_nn hE t o
theorem lb_out (hE : Ps E) (hc : CsOk c) {t : Str} (ht : t ∈ c.1) (hn : t ∉ mkK E) : lbT c.2.2 E t = 0 := by
  obtain ⟨o, _, e⟩ := (lbT_mn hE (rd_ne hc ht)).at_
  rw [e]
  refine cast_inj ?_
  rw [awT_q]
  refine rsum_zero _ fun e he => ?_
  rw [if_neg]
  intro z
  rw [Bool.and_eq_true] at z
  exact hn (List.mem_map.mpr ⟨e, he, of_decide_eq_true z.1⟩)
theorem rs_q : ∀ l : List Rat, rs l = rsum l fun q => q := by
  have go : ∀ (l : List Rat) (a : Rat), l.foldl (· + ·) a = a + rsum l fun q => q := by
    intro l
    induction l with
    | nil => intro a; show a = a + 0; grind
    | cons b l ih => intro a; show l.foldl (· + ·) (a + b) = a + (b + rsum l fun q => q); rw [ih]; grind
  intro l
  unfold rs
  rw [go]; grind
theorem rq_sum {α : Type} {S : Int} (f : α → Int) (g : Rat) : ∀ l : List α, g = (rsum l fun t => ((f t : Int) : Rat)) → rsum l (fun t => rq (f t) S) = g / (S : Rat) := fun l hg => by
  subst hg
  have : (fun t => rq (f t) S) = fun t => (1 / (S : Rat)) * ((f t : Int) : Rat) := by funext t; rw [rq_eq]; grind
  rw [this, rsum_mul]; grind
/-- blind -/
theorem EG.bq (hc : CsOk c) (h : EG c E) : ((lbF c.2.2 E : Int) : Rat) = rsum (srt (dst (mkK E))) fun t => ((lfF (chF c.2.2) E t : Int) : Rat) := by
  rw [lbF_q, hc.rk]
  have hs : ∀ t ∈ srt (dst (mkK E)), t ∈ c.1 := fun t ht => by
    obtain ⟨e, he, rfl⟩ := List.mem_map.mp (dst_mem.mp (srt_mem.mp ht))
    exact h.key e he
  rw [rsum_sub hc.pn (srt_nodup (dst_nodup (mkK E))) hs fun t ht hn => by rw [lb_out h.pos hc ht fun z => hn (srt_mem.mpr (dst_mem.mpr z))]; rfl]
  exact rsum_congr _ fun t ht => by rw [h.lt hc (hs t ht)]
theorem EG.bs (hc : CsOk c) (h : EG c E) : rs (bdL (chF c.2.2, E)) = rq (lbF c.2.2 E) (mkS E) := by
  rw [rs_q]
  unfold bdL
  rw [rsum_map, rq_sum (fun t => lfF (chF c.2.2) E t) _ _ (h.bq hc), rq_eq]
theorem lb_le_s (hE : Ps E) (hc : CsOk c) {t : Str} (ht : t ∈ c.1) : lbT c.2.2 E t ≤ mkS E := by
  obtain ⟨o, _, e⟩ := (lbT_mn hE (rd_ne hc ht)).at_
  rw [e]
  refine cast_le ?_
  rw [awT_q, mkS_q]
  refine rsum_le _ fun e he => ?_
  split
  · exact Rat.le_refl
  · exact hE.q he
theorem EG.bd (hc : CsOk c) (h : EG c E) : BdOk (chF c.2.2, E) := by
  have hb : ∀ t ∈ srt (dst (mkK E)), InD (mkS E) (rq (lfF (chF c.2.2) E t) (mkS E)) ∧ 0 ≤ rq (lfF (chF c.2.2) E t) (mkS E) ∧ rq (lfF (chF c.2.2) E t) (mkS E) ≤ ((2 ^ 1 : Int) : Rat) := fun t ht => by
    have hk : t ∈ c.1 := by
      obtain ⟨e, he, rfl⟩ := List.mem_map.mp (dst_mem.mp (srt_mem.mp ht))
      exact h.key e he
    rw [h.lt hc hk]
    refine ⟨⟨_, rfl⟩, rq_nn (lb_nn h.pos hc hk) h.s0, ?_⟩
    have h1 := cast_le' (lb_le_s h.pos hc hk)
    have h2 := MK.cast_pos h.s0
    rw [rq_eq]
    have h3 := MK.div_le h2 h1
    have h4 : (mkS E : Rat) / (mkS E : Rat) = 1 := by grind
    rw [h4] at h3
    exact Rat.le_trans h3 (by decide)
  refine ⟨h.jd hc, fun q hq => ?_, fun n => ?_⟩
  · obtain ⟨t, ht, rfl⟩ := List.mem_map.mp hq
    obtain ⟨a, b, d⟩ := hb t ht
    exact a.small h.s0 h.sb b d (by decide)
  · rw [rs_q]
    unfold bdL
    rw [← List.map_take, rsum_map]
    have hl : (srt (dst (mkK E))).length ≤ 24 := by
      rw [srt_length]
      have := dst_le (mkK E)
      rw [List.length_map] at this
      have := h.len
      omega
    have hm : ∀ t ∈ (srt (dst (mkK E))).take n, t ∈ srt (dst (mkK E)) := fun t ht => List.mem_of_mem_take ht
    obtain ⟨a, b⟩ := rsum_pow (b := 1) (l := (srt (dst (mkK E))).take n) (f := fun t => rq (lfF (chF c.2.2) E t) (mkS E)) (by rw [List.length_take]; omega) (fun t ht => (hb t (hm t ht)).2.1) (fun t ht => (hb t (hm t ht)).2.2)
    exact (InD.rsum fun t ht => (hb t (hm t ht)).1).small h.s0 h.sb a b (by decide)
/-- found is at most blind -/
theorem EG.fb (hc : CsOk c) (h : EG c E) : lkF c.2.2 E ≤ lbF c.2.2 E := cast_le (by
  rw [lkF_q, lbF_q, hc.rk]
  have e1 : rsum E (fun e => if lkP c.2.2 e = true then (e.1 : Rat) else 0) = rsum c.1 fun t => rsum E fun e => if e.2.1 = t then (if lkP c.2.2 e = true then (e.1 : Rat) else 0) else 0 := by
    rw [← rsum_comm (fun e t => if e.2.1 = t then (if lkP c.2.2 e = true then (e.1 : Rat) else 0) else 0) c.1 E]
    refine rsum_congr _ fun e he => ?_
    have hk := h.key e he
    rw [rsum_sub hc.pn (k := [e.2.1]) (by simp) (fun a ha => by rw [List.mem_singleton.mp ha]; exact hk) (fun a _ hn => by rw [if_neg fun z => hn (by rw [z]; simp)])]
    show _ = (if e.2.1 = e.2.1 then (if lkP c.2.2 e = true then (e.1 : Rat) else 0) else 0) + 0
    rw [if_pos rfl]; grind
  rw [e1]
  refine rsum_le _ fun t ht => ?_
  obtain ⟨o, ho, eo⟩ := (lbT_mn h.pos (rd_ne hc ht)).at_
  rw [eo, awT_q]
  refine rsum_le _ fun e he => ?_
  have hq := h.pos.q he
  by_cases h1 : e.2.1 = t
  · rw [if_pos h1]
    by_cases h2 : lkP c.2.2 e = true
    · rw [if_pos h2]
      have h3 : o ∈ e.2.2 := by
        unfold lkP at h2
        have h2 := of_decide_eq_true h2
        rw [List.length_eq_zero_iff, List.filter_eq_nil_iff] at h2
        have := h2 o (by rw [h1]; exact ho)
        simpa using this
      rw [decide_eq_true h1, decide_eq_true h3]; exact Rat.le_refl
    · rw [if_neg h2]
      split
      · exact hq
      · exact Rat.le_refl
  · rw [if_neg h1]
    split
    · exact hq
    · exact Rat.le_refl)
theorem EG.bn (hc : CsOk c) (h : EG c E) : 0 ≤ lbF c.2.2 E ∧ 0 ≤ lkF c.2.2 E := by
  constructor
  · refine cast_le ?_
    rw [lbF_q, hc.rk]
    exact rsum_nonneg _ fun t ht => MK.cast_nn (lb_nn h.pos hc ht)
  · refine cast_le ?_
    rw [lkF_q]
    exact rsum_nonneg _ fun e he => by split; exact h.pos.q he; exact Rat.le_refl
end
/-! ### sorted accused -/
theorem lkF_F (ch : Chs) (es : List En) : lkF ch (mkF es) = lkF ch es := by
  refine cast_inj ?_
  rw [lkF_q, lkF_q]
  unfold mkF
  rw [rsum_map]
  refine rsum_congr _ fun e _ => ?_
  have : lkP ch (e.1, e.2.1, srt e.2.2) = lkP ch e := by
    unfold lkP
    congr 3
    refine List.filter_congr fun o _ => ?_
    show (!decide (o ∈ srt e.2.2)) = !decide (o ∈ e.2.2)
    rw [decide_eq_decide.mpr srt_mem]
  rw [this]
theorem awT_F (es : List En) (t o : Str) : awT (mkF es) t o = awT es t o := by
  refine cast_inj ?_
  rw [awT_q, awT_q]
  unfold mkF
  rw [rsum_map]
  refine rsum_congr _ fun e _ => ?_
  show (if (decide (e.2.1 = t) && decide (o ∈ srt e.2.2)) = true then _ else _) = _
  rw [decide_eq_decide.mpr (srt_mem (xs := e.2.2) (x := o))]
theorem awS_F (es : List En) (o : Str) : awS (mkF es) o = awS es o := by
  refine cast_inj ?_
  rw [awS_q, awS_q]
  unfold mkF
  rw [rsum_map]
  refine rsum_congr _ fun e _ => ?_
  show (if decide (o ∈ srt e.2.2) = true then _ else _) = _
  rw [decide_eq_decide.mpr (srt_mem (xs := e.2.2) (x := o))]
theorem lbF_F (ch : Chs) (es : List En) : lbF ch (mkF es) = lbF ch es := by
  rw [lb_sum, lb_sum]
  congr 1
  refine List.map_congr_left fun r _ => ?_
  unfold lbT
  congr 1
  funext m o
  unfold lb1
  rw [awT_F]
theorem wtF_F (es : List En) : wtF (mkF es) = wtF es := by
  unfold wtF mkF
  rw [List.foldl_map]; rfl
end MF
set_option maxHeartbeats 4000000
/-! the law's mathematics: the most accused; the table. -/
namespace MF
open PySem PySem.Spec L2 MT MJ
open PyProof.Rows hiding St
open MK (rsum rsum_congr rsum_map rsum_filter rsum_comm rsum_le rsum_zero rsum_nonneg rsum_append rsum_perm rsum_sub rsum_mul rsum_mem_le rsum_add)
theorem tbW_put {m : Tbl} {x y : Str} {a : Int} : tbW (MJ.dput m x a) y = if x = y then a else tbW m y := by
  unfold tbW
  rw [dput_get]
  split <;> rfl
theorem tbW_out {m : Tbl} {x : Str} (h : x ∉ m.map (·.1)) : tbW m x = 0 := by
  unfold tbW
  rw [dget_none.mpr h]; rfl
theorem tbW_in {m : Tbl} (nd : (m.map (·.1)).Nodup) {p : Str × Int} (h : p ∈ m) : tbW m p.1 = p.2 := by
  unfold tbW
  rw [dget_mem nd h]; rfl
theorem aw_fold (w : Int) (x : Str) : ∀ (l : List Str) (m : Tbl), l.Nodup → tbW (l.foldl (aw1 w) m) x = tbW m x + if x ∈ l then w else 0
  | [], m, _ => by simp
  | r :: l, m, h => by
    rw [List.nodup_cons] at h
    show tbW (l.foldl (aw1 w) (aw1 w m r)) x = _
    rw [aw_fold w x l _ h.2]
    unfold aw1
    rw [tbW_put]
    by_cases e : r = x
    · subst e; simp [h.1]
    · have : ¬ x = r := fun z => e z.symm
      simp [e, this]
theorem awS_snoc (E : List En) (e : En) (o : Str) : awS (E ++ [e]) o = awS E o + if o ∈ e.2.2 then e.1 else 0 := by
  unfold awS
  rw [List.filter_append, List.map_append, List.sum_append]
  congr 1
  by_cases h : o ∈ e.2.2
  · simp [h]
  · simp [h]
theorem awF_at {E : List En} (h : ∀ e ∈ E, e.2.2.Nodup) (o : Str) : tbW (awF E) o = awS E o := by
  refine snocI (P := fun E : List En => (∀ e ∈ E, e.2.2.Nodup) → tbW (awF E) o = awS E o) (fun _ => rfl) (fun l e ih h => ?_) E h
  have ih := ih fun e he => h e (List.mem_append_left _ he)
  have e1 : awF (l ++ [e]) = e.2.2.foldl (aw1 e.1) (awF l) := by unfold awF; rw [List.foldl_append]; rfl
  rw [e1, aw_fold _ _ _ _ (h e (by simp)), ih, awS_snoc]
theorem aw1_keys (w : Int) : ∀ (l : List Str) (m : Tbl), (m.map (·.1)).Nodup → ((l.foldl (aw1 w) m).map (·.1)).Nodup ∧ ∀ x, x ∈ (l.foldl (aw1 w) m).map (·.1) → x ∈ m.map (·.1) ∨ x ∈ l
  | [], m, h => ⟨h, fun x hx => .inl hx⟩
  | r :: l, m, h => by
    have h1 : ((aw1 w m r).map (·.1)).Nodup := dput_nodup h
    obtain ⟨a, b⟩ := aw1_keys w l (aw1 w m r) h1
    refine ⟨a, fun x hx => ?_⟩
    rcases b x hx with hx | hx
    · unfold aw1 at hx
      rw [dput_keys] at hx
      split at hx
      · exact .inl hx
      · rcases List.mem_append.mp hx with hx | hx
        · exact .inl hx
        · rw [List.mem_singleton.mp hx]; exact .inr List.mem_cons_self
    · exact .inr (List.mem_cons_of_mem _ hx)
theorem awF_keys (E : List En) : ((awF E).map (·.1)).Nodup ∧ ∀ x, x ∈ (awF E).map (·.1) → ∃ e ∈ E, x ∈ e.2.2 := by
  refine snocI (P := fun E : List En => ((awF E).map (·.1)).Nodup ∧ ∀ x, x ∈ (awF E).map (·.1) → ∃ e ∈ E, x ∈ e.2.2) ⟨List.nodup_nil, fun x h => absurd h List.not_mem_nil⟩ (fun l e ih => ?_) E
  have e1 : awF (l ++ [e]) = e.2.2.foldl (aw1 e.1) (awF l) := by unfold awF; rw [List.foldl_append]; rfl
  rw [e1]
  obtain ⟨a, b⟩ := aw1_keys e.1 e.2.2 (awF l) ih.1
  refine ⟨a, fun x hx => ?_⟩
  rcases b x hx with hx | hx
  · obtain ⟨f, hf, hx⟩ := ih.2 x hx
    exact ⟨f, List.mem_append_left _ hf, hx⟩
  · exact ⟨e, by simp, hx⟩
theorem lm_amx (os : List Str) (E : List En) : lmF os E = amx (os.map (awS E)) := by
  unfold lmF amx
  rw [List.foldl_map]; rfl
theorem lm_le (os : List Str) (E : List En) : 0 ≤ lmF os E ∧ ∀ o ∈ os, awS E o ≤ lmF os E := by
  rw [lm_amx]
  obtain ⟨_, h⟩ := amx_ok (os.map (awS E))
  exact ⟨h 0 List.mem_cons_self, fun o ho => h _ (List.mem_cons_of_mem _ (List.mem_map.mpr ⟨o, ho, rfl⟩))⟩
theorem am_eq {os : List Str} {E : List En} (hn : ∀ e ∈ E, e.2.2.Nodup) (hs : ∀ e ∈ E, ∀ x ∈ e.2.2, x ∈ os) : amx ((awF E).map (·.2)) = lmF os E := by
  rw [lm_amx]
  obtain ⟨k1, k2⟩ := awF_keys E
  obtain ⟨a1, a2⟩ := amx_ok ((awF E).map (·.2))
  obtain ⟨b1, b2⟩ := amx_ok (os.map (awS E))
  refine Int.le_antisymm ?_ ?_
  · refine b2 _ ?_
    rcases List.mem_cons.mp a1 with h | h
    · rw [h]; exact List.mem_cons_self
    · obtain ⟨p, hp, e⟩ := List.mem_map.mp h
      obtain ⟨f, hf, hx⟩ := k2 p.1 (List.mem_map.mpr ⟨p, hp, rfl⟩)
      rw [← e, ← tbW_in k1 hp, awF_at hn]
      exact List.mem_cons_of_mem _ (List.mem_map.mpr ⟨p.1, hs f hf _ hx, rfl⟩)
  · rcases List.mem_cons.mp b1 with h | h
    · rw [h]; exact a2 0 List.mem_cons_self
    · obtain ⟨o, ho, e⟩ := List.mem_map.mp h
      rw [← e]
      by_cases hk : o ∈ (awF E).map (·.1)
      · obtain ⟨a, ha⟩ := dget_of hk
        have hm := dget_some_mem ha
        refine a2 _ (List.mem_cons_of_mem _ (List.mem_map.mpr ⟨_, hm, ?_⟩))
        rw [← awF_at hn, ← tbW_in k1 hm]
      · rw [← awF_at hn, tbW_out hk]; exact a2 0 List.mem_cons_self
theorem EG.m0 {c : Cs} {E : List En} (hc : CsOk c) (h : EG c E) (hz : lmF c.2.1 E = 0) : lbF c.2.2 E ≤ 0 := cast_le (by
  rw [lbF_q, hc.rk]
  refine Rat.le_trans (rsum_le (g := fun _ => (0 : Rat)) _ fun t ht => ?_) (by rw [rsum_zero _ fun _ _ => rfl]; exact Rat.le_refl)
  obtain ⟨o, ho, e⟩ := (lbT_mn h.pos (rd_ne hc ht)).at_
  have h1 := awT_awS h.pos t o
  have h2 := (lm_le c.2.1 E).2 o ((chG_ok hc ht).sub o ho)
  exact cast_le' (b := 0) (by omega))
/-! ### the table -/
theorem tbS_q {m : Tbl} (nd : (m.map (·.1)).Nodup) : ((tbS m : Int) : Rat) = rsum (m.map (·.1)) fun t => ((tbW m t : Int) : Rat) := by
  unfold tbS
  rw [sum_q, rsum_map, rsum_map]
  exact rsum_congr _ fun p hp => by rw [tbW_in nd hp]
theorem tbS_put {m : Tbl} (nd : (m.map (·.1)).Nodup) (x : Str) (w : Int) : tbS (MJ.dput m x (tbW m x + w)) = tbS m + w := by
  by_cases h : x ∈ m.map (·.1)
  · have go : ∀ (m : Tbl) (a : Int), (m.map (·.1)).Nodup → x ∈ m.map (·.1) → tbS (m.map fun p => if p.1 = x then (p.1, a) else p) = tbS m + (a - tbW m x) := by
      intro m a
      induction m with
      | nil => intro _ h; cases h
      | cons p m ih =>
        intro nd h
        rw [List.map_cons, List.nodup_cons] at nd
        have e0 : ∀ (q : Str × Int) (l : Tbl), tbS (q :: l) = q.2 + tbS l := fun q l => by unfold tbS; simp
        rw [List.map_cons, e0, e0]
        by_cases e : p.1 = x
        · have hw : tbW (p :: m) x = p.2 := by unfold tbW; rw [dget_cons, if_pos e]; rfl
          rw [if_pos e, hw]
          have : m.map (fun q => if q.1 = x then (q.1, a) else q) = m := by
            conv => rhs; rw [← List.map_id m]
            refine List.map_congr_left fun q hq => ?_
            rw [if_neg fun z => nd.1 (by rw [e, ← z]; exact List.mem_map.mpr ⟨q, hq, rfl⟩)]; rfl
          rw [this]
          show a + tbS m = _
          omega
        · have hw : tbW (p :: m) x = tbW m x := by unfold tbW; rw [dget_cons, if_neg e]
          rw [if_neg e, hw, ih nd.2 (by rcases List.mem_cons.mp h with h | h; exact absurd h.symm e; exact h)]
          omega
    unfold MJ.dput
    rw [if_pos (by
      obtain ⟨p, hp, e⟩ := List.mem_map.mp h
      exact List.any_eq_true.mpr ⟨p, hp, decide_eq_true e⟩), go m _ nd h]
    omega
  · rw [dput_new h, tbW_out h]
    unfold tbS
    simp
theorem wtF_ok {E : List En} (hE : Ps E) : ((wtF E).map (·.1)).Nodup ∧ (∀ x, x ∈ (wtF E).map (·.1) ↔ x ∈ mkK E) ∧ tbS (wtF E) = mkS E := by
  refine ⟨(wt_ok hE).nd, ?_⟩
  refine snocI (P := fun E : List En => Ps E → (∀ x, x ∈ (wtF E).map (·.1) ↔ x ∈ mkK E) ∧ tbS (wtF E) = mkS E) (fun _ => ⟨fun x => Iff.rfl, rfl⟩) (fun l e ih h => ?_) E hE
  have hl : Ps l := fun e he => h e (List.mem_append_left _ he)
  obtain ⟨i1, i2⟩ := ih hl
  have e1 : wtF (l ++ [e]) = MJ.dput (wtF l) e.2.1 (tbW (wtF l) e.2.1 + e.1) := by unfold wtF; rw [List.foldl_append]; rfl
  rw [e1]
  constructor
  · intro x
    rw [dput_keys]
    have hm : x ∈ mkK (l ++ [e]) ↔ x ∈ mkK l ∨ x = e.2.1 := by show x ∈ (l ++ [e]).map _ ↔ _; rw [List.map_append, List.mem_append]; simp
    rw [hm]
    split
    · rename_i hk
      rw [i1]
      exact ⟨.inl, fun z => z.elim id fun z => z ▸ (i1 _).mp hk⟩
    · rw [List.mem_append, i1, List.mem_singleton]
  · rw [tbS_put (wt_ok hl).nd, i2]
    unfold mkS
    simp
section
variable {E : List En}
theorem srt_srt (l : List Str) : srt (srt l) = srt l := srt_congr (srt_perm l)
theorem wtT_keys (E : List En) : (wtT E).map (·.1) = srt ((wtF E).map (·.1)) := by
  unfold wtT
  rw [List.map_map]; exact List.map_id _
theorem tbK_T (E : List En) : tbK (wtT E) = srt ((wtF E).map (·.1)) := by
  unfold tbK
  rw [wtT_keys, srt_srt]
theorem wtT_nd (hE : Ps E) : ((wtT E).map (·.1)).Nodup := by rw [wtT_keys]; exact srt_nodup (wtF_ok hE).1
theorem wtT_mem (hE : Ps E) (x : Str) : x ∈ (wtT E).map (·.1) ↔ x ∈ mkK E := by rw [wtT_keys, srt_mem]; exact (wtF_ok hE).2.1 x
theorem tbK_mem (hE : Ps E) (x : Str) : x ∈ tbK (wtT E) ↔ x ∈ mkK E := by rw [tbK_T, srt_mem]; exact (wtF_ok hE).2.1 x
theorem wt_g (hE : Ps E) {t : Str} (ht : t ∈ mkK E) : 0 < cmF (wtF E) ∧ cmF (wtF E) ∣ tbW (wtF E) t ∧ 1 ≤ tbW (wtF E) t := by
  obtain ⟨a, ha⟩ := dget_of (m := wtF E) (((wtF_ok hE).2.1 t).mpr ht)
  have hm := dget_some_mem ha
  obtain ⟨c1, c2⟩ := cm_pos (wt_ok hE).pos hm
  have := tbW_in (wt_ok hE).nd hm
  have hp := (wt_ok hE).pos _ hm
  rw [this]
  exact ⟨c1, c2, hp⟩
theorem wtT_at (hE : Ps E) {t : Str} (ht : t ∈ mkK E) : tbW (wtT E) t = tbW (wtF E) t / cmF (wtF E) := by
  have hm : (t, tbW (wtF E) t / cmF (wtF E)) ∈ wtT E := List.mem_map.mpr ⟨t, srt_mem.mpr (((wtF_ok hE).2.1 t).mpr ht), rfl⟩
  exact tbW_in (wtT_nd hE) hm
theorem wtT_mul (hE : Ps E) {t : Str} (ht : t ∈ mkK E) : tbW (wtT E) t * cmF (wtF E) = tbW (wtF E) t := by
  rw [wtT_at hE ht]
  exact Int.ediv_mul_cancel (wt_g hE ht).2.1
theorem wtT_sum (hE : Ps E) : tbS (wtT E) * cmF (wtF E) = mkS E := cast_inj (by
  rw [Rat.intCast_mul, tbS_q (wtT_nd hE), Rat.mul_comm, ← rsum_mul, ← (wtF_ok hE).2.2, tbS_q (wtF_ok hE).1, wtT_keys, rsum_perm (srt_perm _)]
  refine rsum_congr _ fun t ht => ?_
  rw [Rat.mul_comm, ← Rat.intCast_mul, wtT_mul hE (((wtF_ok hE).2.1 t).mp ht)])
theorem wtT_s0 (hE : Ps E) (hS : 0 < mkS E) : 0 < tbS (wtT E) ∧ 0 < cmF (wtF E) := by
  have h := wtT_sum hE
  have hg : 0 ≤ cmF (wtF E) := cm_nn _ _ (Int.le_refl _)
  have hg2 : 0 < cmF (wtF E) := by
    rcases Int.lt_or_eq_of_le hg with z | z
    · exact z
    · rw [← z, Int.mul_zero] at h; omega
  refine ⟨?_, hg2⟩
  rcases Int.lt_trichotomy 0 (tbS (wtT E)) with z | z | z
  · exact z
  · rw [← z, Int.zero_mul] at h; omega
  · have := Int.mul_neg_of_neg_of_pos z hg2; omega
theorem rq_scale {a b g : Int} (hb : 0 < b) (hg : 0 < g) : rq (a * g) (b * g) = rq a b := by
  rw [rq_eq, rq_eq, Rat.intCast_mul, Rat.intCast_mul]
  have h1 := MK.cast_pos hb
  have h2 := MK.cast_pos hg
  have h3 : (b : Rat) ≠ 0 := by grind
  have h4 : (g : Rat) ≠ 0 := by grind
  grind
theorem wtT_rq (hE : Ps E) (hS : 0 < mkS E) {t : Str} (ht : t ∈ mkK E) : rq (tbW (wtT E) t) (tbS (wtT E)) = rq (tbW (wtF E) t) (mkS E) := by
  obtain ⟨s0, g0⟩ := wtT_s0 hE hS
  rw [← wtT_mul hE ht, ← wtT_sum hE, rq_scale s0 g0]
theorem wtF_le (hE : Ps E) (t : Str) : 0 ≤ tbW (wtF E) t ∧ tbW (wtF E) t ≤ mkS E := by
  have nd := (wtF_ok hE).1
  have h0 : ∀ s, 0 ≤ tbW (wtF E) s := fun s => tbW_nn (fun p hp => by have := (wt_ok hE).pos p hp; omega) s
  refine ⟨h0 t, ?_⟩
  by_cases ht : t ∈ (wtF E).map (·.1)
  · refine cast_le ?_
    rw [← (wtF_ok hE).2.2, tbS_q nd]
    exact rsum_mem_le (f := fun t => ((tbW (wtF E) t : Int) : Rat)) (fun s _ => MK.cast_nn (h0 s)) ht
  · rw [tbW_out ht, ← (wtF_ok hE).2.2]
    refine cast_le ?_
    rw [tbS_q nd]
    exact rsum_nonneg _ fun s _ => MK.cast_nn (h0 s)
theorem wtT_le (hE : Ps E) (hS : 0 < mkS E) (t : Str) : 0 ≤ tbW (wtT E) t ∧ tbW (wtT E) t ≤ mkS E := by
  by_cases ht : t ∈ mkK E
  · obtain ⟨g0, g1, g2⟩ := wt_g hE ht
    rw [wtT_at hE ht]
    exact ⟨Int.ediv_nonneg (by omega) (Int.le_of_lt g0), Int.le_trans (Int.ediv_le_self _ (by omega)) (wtF_le hE t).2⟩
  · rw [tbW_out fun z => ht ((wtT_mem hE t).mp z)]
    exact ⟨Int.le_refl _, by omega⟩
theorem wtT_S_le (hE : Ps E) (hS : 0 < mkS E) : tbS (wtT E) ≤ mkS E ∧ cmF (wtF E) ≤ mkS E := by
  obtain ⟨s0, g0⟩ := wtT_s0 hE hS
  have h := wtT_sum hE
  constructor
  · have := Int.mul_le_mul_of_nonneg_left (show 1 ≤ cmF (wtF E) by omega) (show 0 ≤ tbS (wtT E) by omega)
    omega
  · have := Int.mul_le_mul_of_nonneg_right (show 1 ≤ tbS (wtT E) by omega) (show 0 ≤ cmF (wtF E) by omega)
    omega
/-- the weights of a table, as shares, have the sum 1 -/
theorem wtT_one (hE : Ps E) (hS : 0 < mkS E) : rsum (tbK (wtT E)) (fun t => rq (tbW (wtT E) t) (tbS (wtT E))) = 1 := by
  obtain ⟨s0, g0⟩ := wtT_s0 hE hS
  have e : rsum (tbK (wtT E)) (fun t => ((tbW (wtT E) t : Int) : Rat)) = ((tbS (wtT E) : Int) : Rat) := by
    rw [tbS_q (wtT_nd hE)]
    exact rsum_perm (srt_perm _)
  rw [rq_sum _ _ _ e.symm]
  have := MK.cast_pos s0
  grind
end
end MF
set_option maxHeartbeats 4000000
/-! the law's defs: whole. -/
namespace MJ
open PySem PySem.Spec L2
open PyProof.Rows hiding St
section
variable {X : Cx} {B : Bs} {Γ Γ' : Gm} {W W' : Wl} {a b c e o tg iter elt value : Expr} {es tgs ifs : List Expr} {pos pos' apos p spos : Pos} {R Ra Rb T : Ty} {Ts Us : List Ty} {K : Con} {x f m : Str} {i j : Int} {α : Type}
variable {st : Stmt} {rest A E body : List Stmt} {D : Ends}
/-- an unpacking of a value that is told by a property -/
theorem Sj.setTX {P : α → Prop} {Rx : α → Ty} {Tz : α → List Ty} {is : List Nat} {k : Nat} {tes : List Expr} {pt : Pos} (he : Ev X B Γ W e (tyEx P Rx)) (hg : ∀ z, Gv X (.Tuple tes k pt) (Rx z) is (Tz z)) (hr : ∀ z, P z → Sj X B (setG Γ is (Tz z)) W rest D) (hs : swapsWithSole [.Tuple tes k pt] e spos.line X.env = pure false := by rfl) (hw : swappedStores [.Tuple tes k pt] e X.env = pure none := by rfl)
    (h1 : (assignEach [.Tuple tes k pt] X.env).map (·.2) = [assign (.Tuple tes k pt) X.env] := by rfl) : Sj X B Γ W (.Assign [.Tuple tes k pt] e spos :: rest) D := fun σ C H S =>
  cons_ (ps_asg (g := sG X (.Tuple tes k pt)) pe_s ⟨fun pins s σ H v u Q I r h => h pins s u I r⟩ hs hw h1) (he σ C H S _ fun v C1 H1 s1 E1 ⟨z, pz, r⟩ => by
    obtain ⟨g, pg, qg⟩ := hg z
    intro pins s u I ru
    exact pg.run pins s _ H1 v u _ I ru (qg B W _ C1 H1 v _ E1 r fun vs al => hr z pz _ C1 H1 ⟨sl_set al (S.sl.mono s1), E1⟩))
/-- f(g(..), ..), where g answers an owned object and f owns its first argument -/
theorem Ev.callWO {ι1 ι2 : Type} {pre1 : ι1 → Prop} {ar1 : ι1 → List Ty} {Kr : ι1 → Con} {pre2 : ι2 → Prop} {ar2 : ι2 → List Ty} {Kk : ι2 → Con} {Rr : ι2 → Ty} {k1 k2 n : Nat} {y : Str} {e1 : Expr} {es1 : List Expr} {p1 pos1 : Pos}
    (c1 : C8.Cal X.prog X.w X.K X.mg X.base k1 y (spO pre1 ar1 Kr) []) (c2 : C8.Cal X.prog X.w X.K X.mg X.base k2 x (spW pre2 Kk ar2 Kk Rr) []) (hr : Room n X.A) (hk1 : k1 ≤ n) (hk2 : k2 ≤ n) (i1 : ι1) (i2 : ι2) (hp1 : pre1 i1) (hp2 : pre2 i2) (hK : Kr i1 = Kk i2)
    (ha1 : As X B Γ W (e1 :: es1) (ar1 i1)) (ha2 : ∀ W', As X B Γ W' es (ar2 i2)) (hg1 : Gl X y := by rfl) (hg : Gl X x := by rfl)
    (hdb1 : (y == ("__debug__" : Str)) = false := by decide) (he1 : starEach (e1 :: es1) X.env = (false, eval e1 X.env) :: starEach es1 X.env := by rfl) (hpl1 : (backTo pos1 (starEach es1 X.env)).any (·.1) = false := by rfl)
    (hdb : (x == ("__debug__" : Str)) = false := by decide) (he : starEach (.Call (.Name y p1) (e1 :: es1) [] pos1 :: es) X.env = (false, eval (.Call (.Name y p1) (e1 :: es1) [] pos1) X.env) :: starEach es X.env := by rfl) (hpl : (backTo pos (starEach es X.env)).any (·.1) = false := by rfl) :
    Ev X B Γ W (.Call (.Name x p) (.Call (.Name y p1) (e1 :: es1) [] pos1 :: es) [] pos) (Rr i2) := fun σ C H S Q q =>
  toE (C8.pe_c c2 hr hk2 hg (pa_cons pe_s pa_s he) hdb he hpl) (show tCall _ _ _ (tCons (sE X (.Call (.Name y p1) (e1 :: es1) [] pos1)) (sA X es)) σ H Q from callO_ c1 hr hk1 i1 hp1 ha1 hg1 hdb1 he1 hpl1 S fun z C1 H1 s1 E1 => fun pos pins s I => ha2 _ σ C1 H1 ⟨S.sl.mono s1, E1⟩ _ (fun vs C2 H2 s2 E2 al => by
    obtain ⟨g, gn, E3, up⟩ := E2.down1 (app_last W _)
    rw [hK] at E3
    refine ⟨i2, C2, g, z, vs, hp2, E3, by rw [List.append_nil], al, fun v C' H' E' r => ?_⟩
    obtain ⟨s', E4⟩ := up C' H' _ E'
    rw [app_set] at E4
    exact q v C' H' (s1.trans (s2.trans s')) (E4.sub (List.sublist_append_left _ _)) r) pos pins s I)
/-- a new object, whose arguments are told by properties -/
theorem Ev.mkX {ι : Type} {pre : ι → Prop} {ar : ι → List Ty} {fi : ι → List (Str × Ty)} {k n : Nat} {Cl : Addr} (c : C8.Mak X.prog X.w X.K X.mg X.base k x Cl (spI Cl pre ar fi) []) (hr : Room n X.A) (hk : k + 1 ≤ n) (ha : As X B Γ W (e :: es) Ts) (hi : ∀ vs C, Als Ts vs C → ∃ i, pre i ∧ Als (ar i) vs C ∧ ∀ v C', (tyO Cl (fi i)).r v C' → R.r v C') (hg : Gl X x := by rfl)
    (hdb : (x == ("__debug__" : Str)) = false := by decide) (he : starEach (e :: es) X.env = (false, eval e X.env) :: starEach es X.env := by rfl) (hpl : (backTo pos (starEach es X.env)).any (·.1) = false := by rfl) :
    Ev X B Γ W (.Call (.Name x p) (e :: es) [] pos) R := fun σ C H S Q q =>
  toE (C8.pe_mk c hr hk hg pa_s hdb he hpl) (show tMake _ _ _ _ (sA X (e :: es)) σ H Q from fun pos pins s I => ha σ C H S _ (fun vs C1 H1 s1 E1 al => by
    obtain ⟨i, hp, al, hR⟩ := hi vs C1 al
    intro x dx hx hdx hne
    obtain ⟨s2, E2⟩ := E1.alloc (o := .own x) hdx
    have hx2 : (upd H1 dx (.own x)) x = none := by rw [upd_ne (Ne.symm hne)]; exact hx
    have E3 := E2.own (K := cIns Cl []) (o := .ins Cl dx []) hx2 trivial ⟨dx, [], rfl, .nil⟩
    obtain ⟨g, gn, E4, up⟩ := E3.down1 (app_last W _)
    refine ⟨i, _, g, x, _, hp, E4, by rw [List.append_nil], al.mono s2, fun v C' H' E' r => ⟨r, ?_⟩⟩
    obtain ⟨s5, E5⟩ := up C' H' _ E'
    rw [app_set] at E5
    obtain ⟨o, hn, ro, sC, E6⟩ := E5.freeze (app_last W _)
    rw [app_erase] at E6
    exact q (.ref x) _ H' (s1.trans (s2.trans (s5.trans sC))) E6 (hR _ _ ⟨x, o, rfl, upd_same, (cIns Cl (fi i)).mono sC ro⟩)) pos pins s I)
end
end MJ
namespace MF
open PySem PySem.Spec L2 MT MJ
open PyProof.Rows hiding St
open MK (rsum)
theorem tup3_seqL {a b : Ty} {l : List Str} {v : V} {C : Hp} (h : (tyTup [a, b, tyLs l]).r v C) : (tyTup [a, b, tySeq (l.map tyS)]).r v C := by
  obtain ⟨p, o, e, hp, vs, eo, al⟩ := h
  obtain ⟨x, y, z, rfl, r1, r2, r3⟩ := als3 al
  exact ⟨p, o, e, hp, _, eo, .cons r1 (.cons r2 (.cons (.inl r3) .nil))⟩
/-- levels that the law may take -/
structure LvOk (q : Rat) : Prop where
  l0 : 0 ≤ q
  ln : Lb 200 q.num
  ld : Lb 200 q.den
abbrev whI (c : Cs) (es : List En) (q : Rat) : WdI := ⟨wtT (mkF es), chF c.2.2, q, wtF es, c.2.2⟩
/-- what the law needs to know of its entries -/
structure WhOk (c : Cs) (es : List En) : Prop where
  mi : MkIn es
  mo : MkOk (mkF es)
  bd : BdOk (chF c.2.2, mkF es)
  lw : LwIn (true, es, c.2.2)
  fb : lkF c.2.2 es ≤ lbF c.2.2 es
  fs : rq (fsF (chF c.2.2) (mkF es)) (mkS (mkF es)) = rq (lkF c.2.2 es) (mkS es)
  bs : rs (bdL (chF c.2.2, mkF es)) = rq (lbF c.2.2 es) (mkS es)
  am : rq (amx ((awF (mkF es)).map (·.2))) (mkS (mkF es)) = rq (lmF c.2.1 es) (mkS es)
  s0 : 0 < mkS es
  sb : Lb 200 (mkS es)
  m0 : lmF c.2.1 es = 0 → lbF c.2.2 es ≤ 0
  cm : Lb 4000 (cmF (wtF (mkF es)))
  bl : Lb 4000 (lbF c.2.2 es)
  lv : LvOk (rq (lmF c.2.1 es) (mkS es))
  wd : ∀ q, LvOk q → WdPre (whI c es q)
  bf : ∀ q, LvOk q → BfPre ⟨whI c es q, c.1⟩
  le : 0 < lmF c.2.1 es → lbF c.2.2 es * (wsW (wdS (whI c es (rq (lmF c.2.1 es) (mkS es))))).den ≤ (wsW (wdS (whI c es (rq (lmF c.2.1 es) (mkS es))))).num * mkS es
  ws : ∀ q, LvOk q → Sm (wsW (wdS (whI c es q)))
section
variable {P : Program} {w : World} {K : PySem.W.Frag} {mg : Str → Option Value} {base : Heap}
abbrev NWh : List Str := ["_law_script", "_law_pool_here", "_law_others", "_law_readable", "_law_changes", "_law_stream_here", "_law_step", "_law_entries_here", "_law_marking", "_law_weights_here", "_law_full", "_law_found_here", "_law_blind_here", "_law_most_here", "_law_level", "_law_table", "_law_due", "_law_under", "_law_text_here", "_law_entry"]
theorem sc_lwh : FnScope NWh ["_law_script"] (defScope s_l_whole) := ⟨rfl, rfl, rfl, by decide +kernel, rfl, by decide +kernel, by decide +kernel⟩
theorem f_lwh (T : Tx K mg) (wh : ∀ c es, CsOk c → EsOk c es → WhOk c es) : C8.Cal P w K mg base 11 "_law_whole" (spP (fun xs : List Int => xs.length < 2 ^ 62) (fun xs => [tyScr K xs]) (fun _ => tyB true)) [] :=
  mkCal T.g_law_whole T.d_l_whole sc_lwh (fun _ _ _ _ _ _ us hl => match us, hl with | [_], _ => rfl) (lenP fun _ => rfl) (bodyP fun cdv A outer s H E hr xs B D hp fin _ => by
    have hu := hu_of hr
    refine Sj.setTX (P := CsOk) (Rx := tyCs) (is := [1, 2, 3]) (Tz := fun c => [tyLs c.1, tyLs c.2.1, tyRd c.2.2]) (Ev.call (f_lcs T) hr (by decide) xs hp (As.cons (Ev.v 0 rfl) As.nil)) (fun c => gLt rfl (gLc (gName 1 sc_lwh.nd) (gLc (gName 2 sc_lwh.nd) (gLc (gName 3 sc_lwh.nd) gL0)))) fun c hc => ?_
    obtain ⟨pool, os, rd⟩ := c
    have hpl : pool.length ≤ 8 := hc.pl
    have hol : os.length ≤ 16 := hc.ol
    have hrk : rd.map (·.1) = pool := hc.rk
    have hnd : (rd.map (·.1)).Nodup := by rw [hrk]; exact hc.pn
    have hrl : rd.length = pool.length := by rw [← hrk, List.length_map]
    have hrd : rd = pool.map fun t => (t, chG rd t) := by
      rw [← hrk, List.map_map]
      conv => lhs; rw [← List.map_id rd]
      refine List.map_congr_left fun r hr => ?_
      show r = (r.1, chG rd r.1)
      rw [chG_mem hnd hr]
    have hrows : tyLst (pool.map fun t => tyTup [tyS t, tyLs (chG rd t)]) = tyLst (rd.map fun r => tyTup [tyS r.1, tyLst (r.2.map tyS)]) := by
      conv => rhs; rw [hrd]
      rw [List.map_map]; rfl
    have hci : ChIn rd := ⟨hnd, by omega, fun r hr => Nat.le_trans (nd_sub_len (hc.rv r hr).nd (hc.rv r hr).sub) (Nat.le_trans hol (by decide))⟩
    refine Sj.set 4 sc_lwh.nd (Ev.mk (f_changes T) hr (by decide) rd hci (As.cons (Ev.eq (Ev.lc (xs := pool) (Rx := tyS) (Ro := fun t => tyTup [tyS t, tyLs (chG rd t)]) [("_law_text_here", 18)] rfl sc_lwh.nd (Iv.list (Ev.v 1 rfl)) (blkOk_by (N := NWh) (sc := defScope s_l_whole) (by decide +kernel)) (fun x s0 H0 Cc cl fp => gName 18 sc_lwh.nd) (by decide) (small1000 (by omega)) (fun t ht s0 H0 Cc cl fp D K => Ev.tup (As.cons (Ev.v 18 rfl) (As.cons (listL T.f_list (Lv.core (dgetE (Lv.core (Ev.v 3 rfl)) (Ev.v 18 rfl) (rd_get (by rw [hrk]; exact ht)) hu))) As.nil)))) hrows) As.nil)) ?_
    refine Sj.setO 5 sc_lwh.nd (f_lst T) hr (by decide) (xs, (2 : Int)) ⟨by show (0 : Int) ≤ 2; decide, by show (2 : Int) ≤ 10; decide, hp⟩ (As.cons (Ev.v 0 rfl) (As.cons Ev.int As.nil)) fun p => ?_
    refine Sj.for_ (xs := List.range (2 : Int).toNat) (Rx := fun k => tyI (k : Int)) rfl PassesOwn.never (Iv.range T.f_range Ev.int (by decide) (by decide)) (fun x => gName 6 sc_lwh.nd) (fun _ => [some (tyScr K xs), some (tyLs pool), some (tyLs os), some (tyRd rd), some (tyCh K (chF rd)), some (tyP p), none, none, none, none, none, none, none, none, none, none, none, none, none, none]) (fun _ => [(p, cStr)]) (.k (.k (.k (.k (.k (.k (.d (.d (.d (.d (.d (.d (.d (.d (.d (.d (.d (.d (.d (.d .n)))))))))))))))))))) (Wc.refl _) (fun B' _ _ _ n k hn => ?_) ?_
    · have hk2 : (k : Int) < 2 := by
        have hl := (List.getElem?_eq_some_iff.mp hn).1
        rw [List.length_range] at hl
        rw [List.getElem?_range hl] at hn
        have := Option.some.inj hn
        omega
      refine Sj.setEx 7 sc_lwh.nd (Ev.callWO (f_lst T) (f_len T) hr (by decide) (by decide) (xs, (3 : Int) + (k : Int)) (pool, os, rd) ⟨by show (0 : Int) ≤ 3 + k; omega, by show (3 : Int) + k ≤ 10; omega, hp⟩ hc rfl (As.cons (Ev.v 0 rfl) (As.cons (Ev.add Ev.int (Ev.v 6 rfl)) As.nil)) (fun W' => As.cons (Ev.v 1 rfl) (As.cons (Ev.v 2 rfl) (As.cons (Ev.v 3 rfl) As.nil)))) fun es hes => ?_
      have h := wh (pool, os, rd) es hc hes
      have hel : es.length ≤ 12 := hes.len
      refine Sj.set (R := tyMk K (mkF es)) 8 sc_lwh.nd (Ev.mk (f_marking T) hr (by decide) es h.mi (As.cons (Ev.conv (Ev.lc (xs := es) (Rx := enLw true) (Ro := fun e => tyTup [tyI e.1, tyS e.2.1, tyLs e.2.2]) [("_law_entry", 19)] rfl sc_lwh.nd (Iv.list (Ev.v 7 rfl)) (blkOk_by (N := NWh) (sc := defScope s_l_whole) (by decide +kernel)) (fun x s0 H0 Cc cl fp => gName 19 sc_lwh.nd) (by decide) (small1000 (by omega)) (fun e he s0 H0 Cc cl fp D K => Ev.tup (As.cons (ixt (Lv.core (Ev.v 19 rfl)) Ev.int rfl) (As.cons (ixt (Lv.core (Ev.v 19 rfl)) Ev.int rfl) (As.cons (listL T.f_list (Lv.core (ixt (Lv.core (Ev.v 19 rfl)) Ev.int rfl))) As.nil))))) (fun v C r => lst_imp (fun e v r => tup3_seqL r) r)) As.nil)) ?_
      refine Sj.set 9 sc_lwh.nd (Ev.call (f_lwts T) hr (by decide) es ⟨by omega, fun e he => (hes.each e he).w1⟩ (As.cons (Ev.v 7 rfl) As.nil)) ?_
      refine Sj.set (R := tyI (mkS es)) 10 sc_lwh.nd (sumL (xs := es) (g := fun e => e.1) rfl T.f_sum (Ev.lc (xs := es) (Rx := enLw true) (Ro := fun e => tyI e.1) [("_law_entry", 19)] rfl sc_lwh.nd (Iv.list (Ev.v 7 rfl)) (blkOk_by (N := NWh) (sc := defScope s_l_whole) (by decide +kernel)) (fun x s0 H0 Cc cl fp => gName 19 sc_lwh.nd) (by decide) (small1000 (by omega)) (fun e he s0 H0 Cc cl fp D K => ixt (Lv.core (Ev.v 19 rfl)) Ev.int rfl))) ?_
      refine Sj.set 11 sc_lwh.nd (Ev.call (f_lfd T) hr (by decide) (true, es, rd) h.lw (As.cons (Ev.v 7 rfl) (As.cons (Ev.v 3 rfl) As.nil))) ?_
      refine Sj.set 12 sc_lwh.nd (Ev.call (f_lbl T) hr (by decide) (true, es, rd) h.lw (As.cons (Ev.v 7 rfl) (As.cons (Ev.v 3 rfl) As.nil))) ?_
      refine Sj.set 13 sc_lwh.nd (Ev.call (f_lmost T) hr (by decide) (es, os) (by show es.length ≤ 64; omega) (As.cons (Ev.v 7 rfl) (As.cons (Ev.v 2 rfl) As.nil))) ?_
      have hs0 := h.s0
      have hsb8 : Lb 8000 (mkS es) := lb_mono h.sb (by decide)
      have hfb : lkF rd es ≤ lbF rd es := h.fb
      refine Sj.never (Tv.is (Tv.w (Wv.or (Tv.gt (Ev.v 11 rfl) (Ev.v 12 rfl)) fun _ => Wv.or1 (Tv.notD (Tv.val (Ev.call (f_lish T) hr (by decide) (rq (fsF (chF rd) (mkF es)) (mkS (mkF es)), lkF rd es, mkS es) ⟨hs0, hsb8⟩ (As.cons (Ev.call (f_found T) hr (by decide) (chF rd, mkF es) h.bd.jd (As.cons (Ev.v 4 rfl) (As.cons (Ev.v 8 rfl) As.nil))) (As.cons (Ev.v 11 rfl) (As.cons (Ev.v 10 rfl) As.nil)))))))) ?_) ?_
      · show (decide (lbF rd es < lkF rd es) || !decide (rq (fsF (chF rd) (mkF es)) (mkS (mkF es)) = rq (lkF rd es) (mkS es))) = false
        rw [decide_eq_false (by omega), decide_eq_true h.fs]; rfl
      refine Sj.never (Tv.is (Tv.notD (Tv.val (Ev.call (f_lish T) hr (by decide) (rs (bdL (chF rd, mkF es)), lbF rd es, mkS es) ⟨hs0, hsb8⟩ (As.cons (Ev.call (f_blind T) hr (by decide) (chF rd, mkF es) h.bd (As.cons (Ev.v 4 rfl) (As.cons (Ev.v 8 rfl) As.nil))) (As.cons (Ev.v 12 rfl) (As.cons (Ev.v 10 rfl) As.nil)))))) ?_) ?_
      · show (!decide (rs (bdL (chF rd, mkF es)) = rq (lbF rd es) (mkS es))) = false
        rw [decide_eq_true h.bs]; rfl
      have hmS : mkS (mkF es) = mkS es := mkS_F es
      refine Sj.set (R := tySh (CShare K) (rq (lmF os es) (mkS es))) 14 sc_lwh.nd (Ev.eq (Ev.call (f_accmost T) hr (by decide) (mkF es) ⟨h.mo, by rw [hmS]; exact hs0, by rw [hmS]; exact hsb8⟩ (As.cons (Ev.v 8 rfl) As.nil)) (congrArg (fun q => tySh (CShare K) q) h.am)) ?_
      refine Sj.never (Tv.is (Tv.w (Wv.or (Tv.notD (Tv.val (Ev.call (f_lish T) hr (by decide) (rq (lmF os es) (mkS es), lmF os es, mkS es) ⟨hs0, hsb8⟩ (As.cons (Ev.v 14 rfl) (As.cons (Ev.v 13 rfl) (As.cons (Ev.v 10 rfl) As.nil)))))) fun _ => Wv.or1 (Tv.w (Wv.and (Tv.eqI (Ev.v 13 rfl) Ev.int) fun _ => Wv.and1 (Tv.gt (Ev.v 12 rfl) Ev.int))))) ?_) ?_
      · show (!decide (rq (lmF os es) (mkS es) = rq (lmF os es) (mkS es)) || (decide (lmF os es = 0) && decide (0 < lbF rd es))) = false
        rw [decide_eq_true rfl]
        by_cases z : lmF os es = 0
        · have := h.m0 z
          have this : lbF rd es ≤ 0 := this
          rw [decide_eq_false (show ¬ 0 < lbF rd es by omega), Bool.and_false]; rfl
        · rw [decide_eq_false z]; rfl
      refine Sj.set 15 sc_lwh.nd (Ev.call (f_written T) hr (by decide) (mkF es) ⟨h.mo, h.cm⟩ (As.cons (Ev.v 8 rfl) As.nil)) ?_
      refine Sj.two (Γe := [some (tyScr K xs), some (tyLs pool), some (tyLs os), some (tyRd rd), some (tyCh K (chF rd)), some (tyP p), some (tyI (k : Int)), none, none, some (tyD (vmap tyI (wtF es))), none, none, none, some (tyI (lmF os es)), some (tySh (CShare K) (rq (lmF os es) (mkS es))), some (tyTb K (wtT (mkF es))), none, none, none, none]) (We := [(p, cStr)]) ?_ fun hre => ?_
      · refine Sj.two (Γe := [some (tyScr K xs), some (tyLs pool), some (tyLs os), some (tyRd rd), some (tyCh K (chF rd)), some (tyP p), some (tyI (k : Int)), none, none, some (tyD (vmap tyI (wtF es))), none, none, none, none, some (tyEx LvOk (tySh (CShare K))), some (tyTb K (wtT (mkF es))), none, none, none, none]) (We := [(p, cStr)]) ?_ fun hre2 => ?_
        · refine Sj.openS 14 rfl fun q hq => ?_
          refine Sj.never (Tv.is (Tv.w (Wv.and (Tv.eqI (Ev.v 6 rfl) Ev.int) fun _ => Wv.and1 (Tv.notD (Tv.val (Ev.call (f_lbf T) hr (by decide) ⟨whI (pool, os, rd) es q, pool⟩ (h.bf q hq) (As.cons (Ev.v 15 rfl) (As.cons (Ev.v 4 rfl) (As.cons (Ev.v 14 rfl) (As.cons (Ev.v 9 rfl) (As.cons (Ev.v 1 rfl) (As.cons (Ev.v 3 rfl) As.nil))))))))))) (by rw [show (!true) = false from rfl, Bool.and_false])) ?_
          exact Sj.at (.k (.k (.k (.k (.k (.k (.d (.d (.d (.d (.d (.d (.d (.d (.d (.d (.d (.d (.d (.d .n)))))))))))))))))))) (Wc.refl _)
        · refine Sj.if_ (Tv.w (Wv.orP (Tv.eqI (Ev.v 13 rfl) Ev.int) fun _ => Wv.or1 (Tv.eqX2 (Ev.draw T hr (by decide) 0 (M := 2) (by decide) (Ev.v 5 rfl) rfl (Ev.mn Ev.int (by decide) (by decide))) Ev.int))) (fun _ => ?_) (fun _ => Sj.go (fun σ C H S => hre2 σ C H (S.ws (.k (.k (.k (.k (.k (.k (.k (.k (.k (.k (.k (.k (.k (.d (.c (fun v C r => ⟨_, h.lv, r⟩) (.k (.k (.k (.k (.k .n)))))))))))))))))))) (Wc.refl _))) rfl)
          refine Sj.setEx 17 sc_lwh.nd (Ev.wkX (P' := fun z => 1 ≤ z ∧ z ≤ 9) (Ev.addX (Ev.toX Ev.int) (Ev.draw T hr (by decide) 0 (M := 9) (by decide) (Ev.v 5 rfl) rfl (Ev.mn Ev.int (by decide) (by decide)))) (fun z hz => by obtain ⟨i, j, rfl, h2, rfl⟩ := hz; omega)) fun ud hud => ?_
          refine Sj.set (R := tyEx LvOk (tySh (CShare K))) 14 sc_lwh.nd (Ev.mkX (f_share T) hr (by decide) (As.cons (Ev.wkX (P' := fun z => 1 ≤ z ∧ z ≤ 10) (Ev.addX (Ev.toX Ev.int) (Ev.draw T hr (by decide) 0 (M := 10) (by decide) (Ev.v 5 rfl) rfl (Ev.mn (Ev.add (Ev.v 17 rfl) Ev.int) (by omega) (by omega)))) (fun z hz => by obtain ⟨i, j, rfl, h2, rfl⟩ := hz; omega)) (As.cons (Ev.v 17 rfl) As.nil)) (fun vs C al => ?_)) (Sj.go (fun σ C H S => hre2 σ C H (S.ws (.k (.k (.k (.k (.k (.k (.k (.k (.k (.k (.k (.k (.k (.d (.k (.k (.k (.d (.k (.k .n)))))))))))))))))))) (Wc.refl _))) rfl)
          obtain ⟨v1, v2, rfl, ⟨z, hz, r1⟩, r2⟩ := als2 al
          have hlu : Lb 200 ud := Nat.lt_of_le_of_lt (show ud.natAbs ≤ 9 by omega) (by decide)
          refine ⟨(z, ud), ⟨by show 0 < ud; omega, lb_mono hlu (by decide)⟩, .cons r1 (.cons r2 .nil), fun v C' r => ⟨rq z ud, ⟨rq_nn (by omega) (by omega), ?_, ?_⟩, r⟩⟩
          · rw [rq_num (by omega)]
            exact lb_div (Nat.lt_of_le_of_lt (show z.natAbs ≤ 10 by omega) (by decide))
          · rw [rq_den (by omega)]
            exact lb_div hlu
      · refine Sj.if_ (Tv.gt (Ev.v 13 rfl) Ev.int) (fun hz => ?_) (fun _ => Sj.go (fun σ C H S => hre σ C H (S.ws (.k (.k (.k (.k (.k (.k (.k (.d (.d (.k (.d (.d (.d (.k (.k (.k (.k (.k (.k (.k .n)))))))))))))))))))) (Wc.refl _))) rfl)
        have hm : 0 < lmF os es := of_decide_eq_true hz.symm
        have hle := h.le hm
        have hw := h.ws _ h.lv
        refine Sj.set 16 sc_lwh.nd (Ev.call (f_lwd T) hr (by decide) (whI (pool, os, rd) es (rq (lmF os es) (mkS es))) (h.wd _ h.lv) (As.cons (Ev.v 15 rfl) (As.cons (Ev.v 4 rfl) (As.cons (Ev.v 14 rfl) (As.cons (Ev.v 9 rfl) (As.cons (Ev.v 3 rfl) As.nil)))))) ?_
        refine Sj.never (Tv.is (Tv.w (Wv.or (Tv.isN (Ev.v 16 rfl) (bb := false) q_ref) fun _ => Wv.or1 (Tv.gt (Ev.mul (Ev.v 12 rfl) (ixt (Lv.core (Ev.v 16 rfl)) Ev.int rfl) (sm_mul h.bl hw.d)) (Ev.mul (ixt (Lv.core (Ev.v 16 rfl)) Ev.int rfl) (Ev.v 10 rfl) (sm_mul hw.n (lb_mono h.sb (by decide))))))) ?_) (Sj.go (fun σ C H S => hre σ C H (S.ws (.k (.k (.k (.k (.k (.k (.k (.d (.d (.k (.d (.d (.d (.k (.k (.k (.d (.k (.k (.k .n)))))))))))))))))))) (Wc.refl _))) rfl)
        exact (Bool.false_or _).trans (decide_eq_false (Int.not_lt.mpr hle))
    · exact Sj.ret Ev.bl fin (fun v C r => r) .d)
end
end MF
set_option maxHeartbeats 4000000
/-! the law itself. -/
namespace MJ
open PySem PySem.Spec L2
open PyProof.Rows hiding St
theorem Sj.tryN {X : Cx} {B : Bs} {Γ : Gm} {W : Wl} {rest body : List Stmt} {D : Ends} {h₀ : ExceptHandler} {hs : List ExceptHandler} {pos : Pos} (hX : X.nox = X) (h : Sj X B Γ W body (Dn D (sB X rest D))) : Sj X B Γ W (.Try body (h₀ :: hs) [] [] pos :: rest) D := fun σ C H S =>
  cons_ (ps_try_thru0 (t := sB X body) (by rw [hX]; exact pb_s)) (h σ C H S)
end MJ
namespace MF
open PySem PySem.Spec L2 MT MJ
open PyProof.Rows hiding St
section
variable {P : Program} {w : World} {K : PySem.W.Frag} {mg : Str → Option Value} {base : Heap}
theorem sc_law : FnScope ["_law_script"] ["_law_script"] (defScope s_law) := ⟨rfl, rfl, rfl, by decide +kernel, rfl, by decide +kernel, by decide +kernel⟩
abbrev sp_law (K : PySem.W.Frag) : Sp := spP (fun xs : List Int => xs.length < 2 ^ 62) (fun xs => [tyScr K xs]) (fun _ => tyB true)
theorem law_ok (T : Tx K mg) (wh : ∀ c es, CsOk c → EsOk c es → WhOk c es) {fd : FuncData} (F : FunD K "law" "law" (defArgs s_law) (defBody s_law) (defScope s_law) [] [] (He.fAd K ("law", none)) fd) : FnOk P w K mg base CX0 12 (He.ga K "law") fd ["_law_script"] (sp_law K) :=
  fnOk F sc_law (lenP fun _ => rfl) (bodyP fun cdv A outer s H E hr xs B D hp fin _ => by
    refine Sj.tryN rfl ?_
    exact Sj.ret (Ev.call (f_lwh T wh) hr (by decide) xs hp (As.cons (Ev.v 0 rfl) As.nil)) fin (fun v C r => r) .n)
theorem law_sp {H : Hp} {a : Addr} {ns : List Int} (hl : ns.length ≤ 63) (hO : Only H) (hS : SqL K H a (ns.map V.int)) : sp_law K [.ref a] H (fun v _ => v = .bl true) fun _ _ _ => False := by
  refine ⟨ns, H, fun _ => none, by omega, ⟨fun _ => none, fun a o e => (nomatch e), fun a o e => .inl e, Same.refl _, fun a o o' e e' => (nomatch e'), Same.refl _, by simp, fun q hq => by simp at hq⟩, .cons ⟨a, rfl, ?_⟩ .nil, fun v C' H' _ r => r⟩
  rcases hS with h | h
  · left
    rcases h with h | ⟨ob, h⟩
    · rcases hO a with h2 | ⟨o, xs, h2⟩
      · rw [h] at h2; cases h2
      · rw [h] at h2; cases h2
    · exact ⟨ob, h⟩
  · exact .inr h
end
end MF
set_option maxHeartbeats 4000000
/-! the law's mathematics: the solver's numbers are small; prices, row and worth as rationals. -/
namespace MF
open PySem PySem.Spec L2 MT MJ
open PyProof.Rows hiding St
open MK (rsum rsum_congr rsum_map rsum_filter rsum_comm rsum_le rsum_zero rsum_nonneg rsum_append rsum_perm rsum_sub rsum_mul rsum_mem_le rsum_add)
open MK (Mat SolS Shape ent risingF boundF betterF exchF lineF runS firstS stepS lastS lastK fact)
theorem ws_small {i : Tbl × Chs × Rat} (hw : WsPre i) : (∀ a b, a < wsM i + 1 → b < wsN i → (ent (wsX i).rows a b).natAbs ≤ 2 ^ 539) ∧ Lb 540 (wsX i).dv := by
  have h : WsD (wsD i) := ws_d hw
  generalize hd : wsD i = d at h
  have htl := h.tl
  have hgl := h.gl
  have hsl : (pkS d).length = d.texts.length + d.groups.length := MK.sides_len
  have hE : ∀ k, 0 ≤ (pkE d).getD k 0 := fun k => by
    rw [List.getD_eq_getElem?_getD]
    cases z : (pkE d)[k]? with
    | none => exact Int.le_refl _
    | some e =>
      have hm := List.mem_of_getElem? z
      unfold pkE MK.endsF at hm
      rcases List.mem_append.mp hm with hm | hm
      · exact (h.b0 e hm).1
      · obtain ⟨_, _, rfl⟩ := List.mem_map.mp hm
        exact h.v0.1
  have hS : ∀ j, j < d.texts.length → ∃ k, k < (pkS d).length ∧ j ∈ (pkS d).getD k [] := fun j hj => ⟨j, by omega, by rw [MK.sides_own hj]; simp⟩
  have hini := MK.tab_init (many := d.texts.length) (sides := pkS d) (ends := pkE d) (fun k _ => hE k) hS
  obtain ⟨s, t0⟩ := MK.Turn.first hini MK.tab_shape
  have hf : fact ((pkS d).length + 1) ≤ 2 ^ 539 := Nat.le_trans (fact_lt _ (by omega)) (Nat.pow_le_pow_right (by decide) (by omega))
  have small1 : ∀ k a b, a < (pkS d).length + 1 → b < d.texts.length + (pkS d).length → (ent (runS (pkS d).length (d.texts.length + (pkS d).length) (firstS (MK.tabF d.texts.length (pkS d) (pkE d)) (pkS d).length d.texts.length) k).rows a b).natAbs ≤ 2 ^ 539 := fun k a b ha hb => by
    have t := t0.run hini k
    have := t.good.small (R := 1) (fun k hk j hj => MK.tab_one hk hj) ha (Nat.le_of_lt hb) (fun k hk => MK.tab_one hk hb)
    omega
  have key : ∀ x : SolS, MK.Turn (ent (MK.tabF d.texts.length (pkS d) (pkE d))) (pkS d).length (d.texts.length + (pkS d).length) s x → Lb 540 x.dv → (∀ a b, a < (pkS d).length + 1 → b < d.texts.length + (pkS d).length → (ent x.rows a b).natAbs ≤ 2 ^ 539) → Lb 540 (stepS (pkS d).length (d.texts.length + (pkS d).length) x).dv := fun x t hd hs => by
    unfold stepS
    cases e : risingF x.rows with
    | none => exact hd
    | some c =>
      obtain ⟨hc, r, h1, h2, h3, h4⟩ := t.pick hini e
      simp only [h1]
      exact Nat.lt_of_le_of_lt (hs r c (by omega) hc) (Nat.pow_lt_pow_right (by decide) (by decide))
  have all : ∀ k, Lb 540 (runS (pkS d).length (d.texts.length + (pkS d).length) (firstS (MK.tabF d.texts.length (pkS d) (pkE d)) (pkS d).length d.texts.length) k).dv := by
    intro k
    induction k with
    | zero => show (1 : Int).natAbs < 2 ^ 540; exact Nat.lt_of_lt_of_le (by decide : 1 < 2 ^ 1) (Nat.pow_le_pow_right (by decide) (by decide))
    | succ k ih => exact key _ (t0.run hini k) ih (small1 k)
  have ex : wsX i = runS (pkS d).length (d.texts.length + (pkS d).length) (firstS (MK.tabF d.texts.length (pkS d) (pkE d)) (pkS d).length d.texts.length) (lastK (pkS d).length (d.texts.length + (pkS d).length) (firstS (MK.tabF d.texts.length (pkS d) (pkE d)) (pkS d).length d.texts.length)) := by
    unfold wsX
    rw [hd]
    rfl
  have e1 : wsM i = (pkS d).length := by unfold wsM; rw [hd]
  have e2 : wsN i = d.texts.length + (pkS d).length := by unfold wsN; rw [hd]
  rw [ex, e1, e2]
  exact ⟨fun a b ha hb => small1 _ a b ha hb, all _⟩
theorem pk_sub {i : Tbl × Chs × Rat} (h : WsPre i) : ∀ b ∈ pkR i.1 i.2.1, b ∈ srt (dst (flT i.2.1)) := fun b hb => by
  have ro := rows_ok (of := chG i.2.1) (texts := tbK i.1) (fun t _ => h.pk.each t) (tbK i.1).length (Nat.le_refl _)
  rw [show (tbK i.1).zipIdx.take (tbK i.1).length = (tbK i.1).zipIdx by rw [List.take_of_length_le (by rw [List.length_zipIdx]; exact Nat.le_refl _)]] at ro
  have ro : RowOk (chG i.2.1) (tbK i.1) (tbK i.1).length (rowsF (chG i.2.1) (tbK i.1)) := ro
  rcases MK.pick_sub _ _ _ _ hb with hb | hb
  · cases hb
  · obtain ⟨j, hj, t, ht, hm⟩ := (ro.ok.mem b).mp (srt_mem.mp hb)
    exact srt_mem.mpr (dst_mem.mpr (List.mem_flatMap.mpr ⟨_, dget_some_mem (chG_of (h.pk.sub t (srt_mem.mp (List.mem_of_getElem? ht)))), hm⟩))
abbrev tbK' (i : Tbl × Chs × Rat) : List Str := tbK i.1
/-- what comes out of the packing, in rationals -/
theorem ws_out {i : Tbl × Chs × Rat} (h : WsPre i) : MK.PkOut (tbK i.1) (tbW i.1) (tbS i.1) (min i.2.2 1) (chG i.2.1) (srt (dst (flT i.2.1))) (MK.uF (tbK i.1) (wsX i).dv (wsU i)) (prV i) (bsF i) (wsW i) := by
  obtain ⟨_, _, d0, _, _, E⟩ := ws_x h
  have I : MK.PkIn (tbK i.1) (tbW i.1) (tbS i.1) (min i.2.2 1) (chG i.2.1) (pkR i.1 i.2.1) (srt (dst (flT i.2.1))) :=
    ⟨ws_nd h, fun t _ => h.wn t, h.pk.s0, by have := h.l0; grind, fun t _ => (h.pk.each t).1, pk_nd i h, pk_sub h, srt_nodup (dst_nodup _)⟩
  have e : (pkE (wsD i)) = MK.endsF (MK.boundsF (tbK i.1) (tbW i.1) (tbS i.1) (min i.2.2 1)) (MK.levI (tbS i.1) (min i.2.2 1)) (pkR i.1 i.2.1).length := by
    show MK.endsF _ _ ((pkR i.1 i.2.1).map _).length = _
    rw [List.length_map]; rfl
  rw [e] at E
  have O := MK.pk_out I E
  have ev : MK.vF (tbK i.1).length (pkR i.1 i.2.1) (wsX i).dv (wsU i) = prV i := by
    funext r
    unfold MK.vF prV
    split
    · rw [rq_eq]
    · rfl
  have ef : MK.fF (tbK i.1) (wsX i).dv (MK.unitI (tbS i.1) (min i.2.2 1)) (MK.toldF (wsX i) (wsN i)) = bsF i := by
    funext t
    unfold MK.fF bsF
    rw [rq_eq]; rfl
  have ew : (((ent (wsX i).rows (wsM i) (wsN i) : Int) : Rat) / (((wsX i).dv * MK.unitI (tbS i.1) (min i.2.2 1) : Int) : Rat)) = wsW i := by
    unfold wsW
    rw [rq_eq]; rfl
  have O : MK.PkOut (tbK i.1) (tbW i.1) (tbS i.1) (min i.2.2 1) (chG i.2.1) (srt (dst (flT i.2.1))) (MK.uF (tbK i.1) (wsX i).dv (wsU i)) (MK.vF (tbK i.1).length (pkR i.1 i.2.1) (wsX i).dv (wsU i)) (MK.fF (tbK i.1) (wsX i).dv (MK.unitI (tbS i.1) (min i.2.2 1)) (MK.toldF (wsX i) (wsN i))) (((ent (wsX i).rows (wsM i) (wsN i) : Int) : Rat) / (((wsX i).dv * MK.unitI (tbS i.1) (min i.2.2 1) : Int) : Rat)) := O
  rw [ev, ef, ew] at O
  exact O
theorem uF_pr {i : Tbl × Chs × Rat} {t : Str} (ht : t ∈ tbK i.1) : MK.uF (tbK i.1) (wsX i).dv (wsU i) t = prU i t := by
  unfold MK.uF prU
  rw [if_pos ht, rq_eq]
theorem dv_pos {i : Tbl × Chs × Rat} (h : WsPre i) : 0 < (wsX i).dv := let ⟨_, _, d0, _⟩ := ws_x h; d0
theorem u_nn {i : Tbl × Chs × Rat} (h : WsPre i) {k : Nat} (hk : k < wsM i) : 0 ≤ wsU i k := let ⟨_, _, _, _, _, E⟩ := ws_x h; E.u0 k hk
theorem u_le {i : Tbl × Chs × Rat} (h : WsPre i) {k : Nat} (hk : k < wsM i) : ((wsU i k : Int) : Rat) ≤ ((2 ^ 600 : Int) : Rat) := by
  have hN : wsN i = (wsD i).texts.length + wsM i := rfl
  have := (ws_small h).1 (wsM i) ((wsD i).texts.length + k) (Nat.lt_succ_self _) (by omega)
  exact lb_rat (n := 600) (Nat.lt_of_le_of_lt this (Nat.pow_lt_pow_right (by decide) (by decide)))
theorem wsM_eq (i : Tbl × Chs × Rat) : wsM i = (tbK i.1).length + (pkR i.1 i.2.1).length := by
  show (MK.sidesF _ _).length = _
  rw [MK.sides_len]
  show (tbK i.1).length + ((pkR i.1 i.2.1).map _).length = _
  rw [List.length_map]
theorem prU_ok {i : Tbl × Chs × Rat} (h : WsPre i) {t : Str} (ht : t ∈ tbK i.1) : InD (wsX i).dv (prU i t) ∧ 0 ≤ prU i t ∧ prU i t ≤ ((2 ^ 600 : Int) : Rat) := by
  have hk : (tbK i.1).idxOf t < wsM i := by rw [wsM_eq]; have := List.idxOf_lt_length_iff.mpr ht; omega
  exact ⟨⟨_, rfl⟩, rq_nn (u_nn h hk) (dv_pos h), Rat.le_trans (rq_le (u_nn h hk) (dv_pos h)) (u_le h hk)⟩
theorem prV_ok {i : Tbl × Chs × Rat} (h : WsPre i) (r : Str) : InD (wsX i).dv (prV i r) ∧ 0 ≤ prV i r ∧ prV i r ≤ ((2 ^ 600 : Int) : Rat) := by
  unfold prV
  split
  · rename_i hr
    have hk : (tbK i.1).length + (pkR i.1 i.2.1).idxOf r < wsM i := by rw [wsM_eq]; have := List.idxOf_lt_length_iff.mpr hr; omega
    exact ⟨⟨_, rfl⟩, rq_nn (u_nn h hk) (dv_pos h), Rat.le_trans (rq_le (u_nn h hk) (dv_pos h)) (u_le h hk)⟩
  · exact ⟨InD.zero _, Rat.le_refl, pow_nn 600⟩
end MF
set_option maxHeartbeats 4000000
/-! the law's mathematics: worth_due, weak duality. -/
namespace MF
open PySem PySem.Spec L2 MT MJ
open PyProof.Rows hiding St
open MK (rsum rsum_congr rsum_map rsum_filter rsum_comm rsum_le rsum_zero rsum_nonneg rsum_append rsum_perm rsum_sub rsum_mul rsum_mem_le rsum_add)
theorem lb_up {a b : Int} {n : Nat} (h : Lb n b) (h0 : 0 ≤ a) (h1 : a ≤ b) : Lb n a := lb_le h (by omega)
structure EH (c : Cs) (E : List En) : Prop where
  eg : EG c E
  l12 : E.length ≤ 12
  s200 : Lb 200 (mkS E)
section
variable {c : Cs} {E : List En} {q : Rat}
abbrev tI (c : Cs) (E : List En) (q : Rat) : Tbl × Chs × Rat := (wtT E, chF c.2.2, q)
theorem key_pool (h : EG c E) {t : Str} (ht : t ∈ mkK E) : t ∈ c.1 := by
  obtain ⟨e, he, rfl⟩ := List.mem_map.mp ht
  exact h.key e he
theorem wtT_len (h : EH c E) : (wtT E).length ≤ 12 ∧ (wtF E).length ≤ 12 := by
  have h1 := (wt_ok h.eg.pos).len
  have h2 := h.l12
  have h3 : (wtT E).length = (wtF E).length := by unfold wtT; rw [List.length_map, srt_length, List.length_map]
  omega
theorem ws_pre (hc : CsOk c) (h : EH c E) (hq : LvOk q) : WsPre (tI c E q) := by
  have hE := h.eg.pos
  have hS := h.eg.s0
  obtain ⟨s0, g0⟩ := wtT_s0 hE hS
  obtain ⟨sl, gl⟩ := wtT_S_le hE hS
  have sb : Lb 200 (tbS (wtT E)) := lb_up h.s200 (by omega) sl
  have wb : ∀ t, Lb 200 (tbW (wtT E) t) := fun t => lb_up h.s200 (wtT_le hE hS t).1 (wtT_le hE hS t).2
  have hl := (wtT_len h).1
  refine ⟨⟨⟨wtT_nd hE, by show (wtT E).length ≤ 1000; omega, fun p hp => ?_⟩, hl, fun t ht => ?_, fun t => ⟨(cg_len hc t).1, Nat.le_trans (cg_len hc t).2 (by decide)⟩, ⟨lb_mono hq.ln (by decide), lb_mono hq.ld (by decide)⟩, s0, lb_mono sb (by decide), fun t => lb_mono (wb t) (by decide), (fl_len hc).1, (fl_len hc).2⟩, hq.l0, lb_mono hq.ld (by decide), lb_mono sb (by decide), fun t => lb_mono (wb t) (by decide), fun t => (wtT_le hE hS t).1⟩
  · have hm : p.1 ∈ mkK E := (wtT_mem hE _).mp (List.mem_map.mpr ⟨p, hp, rfl⟩)
    obtain ⟨a, b, d⟩ := wt_g hE hm
    rw [← tbW_in (wtT_nd hE) hp, wtT_at hE hm]
    have := Int.ediv_pos_of_pos_of_dvd (show 0 < tbW (wtF E) p.1 by omega) (Int.le_of_lt a) b
    omega
  · have ht : t ∈ (wtT E).map (·.1) := ht
    show t ∈ (chF c.2.2).map (·.1)
    rw [chF_keys, hc.rk]
    exact key_pool h.eg ((wtT_mem hE t).mp ht)
noncomputable abbrev tP (c : Cs) (E : List En) (q : Rat) : PcI := ⟨wtF E, c.2.2, prU (tI c E q), prV (tI c E q), min q 1, (wsX (tI c E q)).dv⟩
theorem min_ok (hq : LvOk q) : 0 ≤ min q 1 ∧ min q 1 ≤ 1 ∧ Lb 200 (min q 1).den := by
  obtain ⟨m1, m2, m3, m4⟩ := min_num hq.l0 hq.ld
  refine ⟨?_, ?_, m2⟩
  · have := hq.l0; grind
  · grind
theorem pc_pre (hc : CsOk c) (h : EH c E) (hq : LvOk q) : PcPre (tP c E q) := by
  have hE := h.eg.pos
  have hS := h.eg.s0
  have hw := ws_pre hc h hq
  obtain ⟨w1, w2, w3⟩ := wtF_ok hE
  obtain ⟨m1, m2, m3⟩ := min_ok hq
  obtain ⟨a1, a2, a3⟩ := ar_mem hc
  have hl := (wtT_len h).2
  have hin : ∀ p ∈ wtF E, p.1 ∈ mkK E := fun p hp => (w2 _).mp (List.mem_map.mpr ⟨p, hp, rfl⟩)
  have hk : ∀ p ∈ wtF E, p.1 ∈ tbK (wtT E) := fun p hp => (tbK_mem hE _).mpr (hin p hp)
  refine ⟨w1, by show (wtF E).length < 64; omega, fun p hp => ?_, by show 0 < tbS (wtF E); rw [w3]; exact hS, by show Lb 200 (tbS (wtF E)); rw [w3]; exact h.s200, fun p hp => ?_, rd_nd hc, ?_, fun r hr => ⟨(hc.rv r hr).nd, Nat.le_trans (nd_sub_len (hc.rv r hr).nd (hc.rv r hr).sub) (Nat.le_trans hc.ol (by decide))⟩, by show (arF c.2.2).length < 64; omega, dv_pos hw, lb_mono (ws_small hw).2 (by decide), fun p hp => prU_ok hw (hk p hp), fun r _ => prV_ok hw r, m1, m2, m3, fun p hp => ?_⟩
  · have := wtF_le hE p.1
    rw [tbW_in w1 hp] at this
    exact ⟨this.1, lb_up h.s200 this.1 this.2⟩
  · show p.1 ∈ c.2.2.map (·.1)
    rw [hc.rk]; exact key_pool h.eg (hin p hp)
  · show c.2.2.length < 64
    rw [rd_l hc]; have := hc.pl; omega
  · have O := ws_out hw
    have d := O.dual p.1 (hk p hp)
    rw [uF_pr (i := tI c E q) (hk p hp)] at d
    have hp2 := cg_perm hc (key_pool h.eg (hin p hp))
    have d : 1 ≤ prU (tI c E q) p.1 + rsum (chG (chF c.2.2) p.1) (prV (tI c E q)) := d
    rw [rsum_perm hp2] at d
    exact d
theorem cost_eq (hc : CsOk c) (h : EH c E) (hq : LvOk q) : pcW (tP c E q) = wsW (tI c E q) := by
  have hE := h.eg.pos
  have hS := h.eg.s0
  have hw := ws_pre hc h hq
  have hp := pc_pre hc h hq
  obtain ⟨w1, w2, w3⟩ := wtF_ok hE
  have O := ws_out hw
  rw [O.cost]
  unfold pcW
  congr 1
  · have e1 : rsum (tbK (wtT E)) (fun t => ((tbW (wtT E) t : Int) : Rat) / ((tbS (wtT E) : Int) : Rat) * MK.uF (tbK (wtT E)) (wsX (tI c E q)).dv (wsU (tI c E q)) t) = rsum (tbK (wtT E)) fun t => rq (tbW (wtF E) t) (mkS E) * prU (tI c E q) t := by
      refine rsum_congr _ fun t ht => ?_
      rw [← wtT_rq hE hS ((tbK_mem hE t).mp ht), rq_eq]
      rw [show MK.uF (tbK (wtT E)) (wsX (tI c E q)).dv (wsU (tI c E q)) t = prU (tI c E q) t from uF_pr (i := tI c E q) ht]
    refine Eq.trans ?_ e1.symm
    rw [tbK_T, rsum_perm (srt_perm _), rsum_map]
    refine rsum_congr _ fun p hpm => ?_
    rw [pcA_eq hp]
    show prU (tI c E q) p.1 * rq p.2 (tbS (wtF E)) = rq (tbW (wtF E) p.1) (mkS E) * prU (tI c E q) p.1
    rw [w3, tbW_in w1 hpm, Rat.mul_comm]
  · have e2 : rsum (arF c.2.2) (pcB (tP c E q)) = min q 1 * rsum (arF c.2.2) (prV (tI c E q)) := by
      rw [← rsum_mul]
      refine rsum_congr _ fun o _ => ?_
      rw [pcB_eq, Rat.mul_comm]
    refine e2.trans ?_
    show min q 1 * rsum (arF c.2.2) (prV (tI c E q)) = min q 1 * rsum (srt (dst (flT (chF c.2.2)))) (prV (tI c E q))
    rw [rr_eq hc, rsum_perm (srt_perm _)]
abbrev tW (c : Cs) (E : List En) (q : Rat) : WdI := ⟨wtT E, chF c.2.2, q, wtF E, c.2.2⟩
theorem wd_pre (hc : CsOk c) (h : EH c E) (hq : LvOk q) : WdPre (tW c E q) := ⟨ws_pre hc h hq, pc_pre hc h hq, cost_eq hc h hq, tbK_T E, rr_eq hc⟩
theorem ws_sm (hc : CsOk c) (h : EH c E) (hq : LvOk q) : Sm (wsW (tI c E q)) := by
  rw [← cost_eq hc h hq]
  have := pc_sm (pc_pre hc h hq) (wtF E).length (arF c.2.2).length
  rwa [List.take_length, List.take_length] at this
/-! ### weak duality -/
theorem num_le {W : Rat} {a S : Int} (hS : 0 < S) (h : (a : Rat) ≤ W * (S : Rat)) : a * W.den ≤ W.num * S := cast_le (by
  have hd := MK.cast_pos (den_pos W)
  have e : (W.num : Rat) = W * ((W.den : Int) : Rat) := by
    have hs : rq W.num W.den = W := rq_self W
    rw [rq_eq] at hs
    have : ((W.den : Int) : Rat) ≠ 0 := by grind
    grind
  rw [Rat.intCast_mul, Rat.intCast_mul, e]
  have := Rat.mul_le_mul_of_nonneg_right h (Rat.le_of_lt hd)
  grind)
/-- the least of a text, times its price, summed up -/
theorem blind_le (hc : CsOk c) (h : EH c E) {L : Int} (hL : ∀ o ∈ c.2.1, awS E o ≤ L) (hq : LvOk (rq L (mkS E))) (h1 : rq L (mkS E) ≤ 1) : ((lbF c.2.2 E : Int) : Rat) ≤ wsW (tI c E (rq L (mkS E))) * ((mkS E : Int) : Rat) := by
  have hE := h.eg.pos
  have hS := h.eg.s0
  have hSq := MK.cast_pos hS
  have hw := ws_pre hc h hq
  have hp := pc_pre hc h hq
  obtain ⟨w1, w2, w3⟩ := wtF_ok hE
  generalize hQ : rq L (mkS E) = Q at *
  have hmin : min Q 1 = Q := by grind
  have hLq : Q * ((mkS E : Int) : Rat) = (L : Rat) := by
    rw [← hQ, rq_eq]
    have : ((mkS E : Int) : Rat) ≠ 0 := by grind
    grind
  obtain ⟨a1, a2, a3⟩ := ar_mem hc
  -- over the written texts
  let U := prU (tI c E Q)
  let V := prV (tI c E Q)
  have V0 : ∀ r, 0 ≤ V r := fun r => (prV_ok hw r).2.1
  have hk : ∀ t ∈ (wtF E).map (·.1), t ∈ c.1 := fun t ht => key_pool h.eg ((w2 t).mp ht)
  have e1 : ((lbF c.2.2 E : Int) : Rat) = rsum ((wtF E).map (·.1)) fun t => ((lbT c.2.2 E t : Int) : Rat) := by
    rw [lbF_q, hc.rk]
    exact rsum_sub hc.pn w1 hk fun t ht hn => by rw [lb_out hE hc ht fun z => hn ((w2 t).mpr z)]; rfl
  have e2 : ∀ t ∈ (wtF E).map (·.1), ((lbT c.2.2 E t : Int) : Rat) ≤ ((tbW (wtF E) t : Int) : Rat) * U t + rsum (chG c.2.2 t) fun o => ((awT E t o : Int) : Rat) * V o := fun t ht => by
    obtain ⟨p, hpm, rfl⟩ := List.mem_map.mp ht
    have htp := hk _ ht
    have m := lbT_mn hE (rd_ne hc htp)
    have d := hp.dual p hpm
    have d : 1 ≤ U p.1 + rsum (chG c.2.2 p.1) V := d
    have b0 := MK.cast_nn (lb_nn hE hc htp)
    have u0 : 0 ≤ U p.1 := (hp.ud p hpm).2.1
    have bw : ((lbT c.2.2 E p.1 : Int) : Rat) ≤ ((tbW (wtF E) p.1 : Int) : Rat) := by
      obtain ⟨o, ho, eo⟩ := m.at_
      rw [eo]
      have wq : ((tbW (wtF E) p.1 : Int) : Rat) = rsum E fun e => if e.2.1 = p.1 then (e.1 : Rat) else 0 := by
        refine snocI (P := fun E : List En => ((tbW (wtF E) p.1 : Int) : Rat) = rsum E fun e => if e.2.1 = p.1 then (e.1 : Rat) else 0) rfl (fun l e ih => ?_) E
        have e1 : wtF (l ++ [e]) = MJ.dput (wtF l) e.2.1 (tbW (wtF l) e.2.1 + e.1) := by unfold wtF; rw [List.foldl_append]; rfl
        rw [e1, tbW_put, rsum_append, ← ih]
        show _ = _ + ((if e.2.1 = p.1 then (e.1 : Rat) else 0) + 0)
        by_cases z : e.2.1 = p.1
        · rw [if_pos z, if_pos z, z, Rat.intCast_add]; grind
        · rw [if_neg z, if_neg z]; grind
      rw [wq, awT_q]
      refine rsum_le _ fun e he => ?_
      have hq0 := hE.q he
      by_cases z : e.2.1 = p.1
      · rw [if_pos z]
        split
        · exact Rat.le_refl
        · exact hq0
      · rw [if_neg z, decide_eq_false z, Bool.false_and]; exact Rat.le_refl
    have s1 : ((lbT c.2.2 E p.1 : Int) : Rat) ≤ ((lbT c.2.2 E p.1 : Int) : Rat) * (U p.1 + rsum (chG c.2.2 p.1) V) := by
      have := Rat.mul_le_mul_of_nonneg_left d b0
      rwa [Rat.mul_one] at this
    refine Rat.le_trans s1 ?_
    rw [Rat.mul_add]
    have s2 := Rat.mul_le_mul_of_nonneg_right bw u0
    have s3 : ((lbT c.2.2 E p.1 : Int) : Rat) * rsum (chG c.2.2 p.1) V ≤ rsum (chG c.2.2 p.1) fun o => ((awT E p.1 o : Int) : Rat) * V o := by
      rw [← rsum_mul]
      exact rsum_le _ fun o ho => Rat.mul_le_mul_of_nonneg_right (cast_le' (m.le o ho)) (V0 o)
    grind
  have e3 : ∀ t ∈ (wtF E).map (·.1), (rsum (chG c.2.2 t) fun o => ((awT E t o : Int) : Rat) * V o) ≤ rsum (arF c.2.2) fun o => ((awT E t o : Int) : Rat) * V o := fun t ht => by
    have hrv := chG_ok hc (hk t ht)
    have hs : ∀ o ∈ chG c.2.2 t, o ∈ arF c.2.2 := fun o ho => (a2 o).mpr ⟨_, dget_some_mem (chG_of (by rw [hc.rk]; exact hk t ht)), ho⟩
    have e : (rsum (chG c.2.2 t) fun o => ((awT E t o : Int) : Rat) * V o) = rsum (arF c.2.2) fun o => if o ∈ chG c.2.2 t then ((awT E t o : Int) : Rat) * V o else 0 := by
      rw [rsum_sub a1 hrv.nd hs fun o _ hn => by rw [if_neg hn]]
      exact rsum_congr _ fun o ho => by rw [if_pos ho]
    rw [e]
    refine rsum_le _ fun o _ => ?_
    have := Rat.mul_nonneg (MK.cast_nn (awT_nn hE t o)) (V0 o)
    split
    · exact Rat.le_refl
    · exact this
  have e4 : ∀ o ∈ arF c.2.2, (rsum ((wtF E).map (·.1)) fun t => ((awT E t o : Int) : Rat)) ≤ (L : Rat) := fun o ho => by
    have ho2 : o ∈ c.2.1 := by
      obtain ⟨r, hr, hx⟩ := (a2 o).mp ho
      exact (hc.rv r hr).sub o hx
    refine Rat.le_trans ?_ (cast_le' (hL o ho2))
    rw [awS_q]
    have e : (rsum ((wtF E).map (·.1)) fun t => ((awT E t o : Int) : Rat)) = rsum E fun e => rsum ((wtF E).map (·.1)) fun t => if (decide (e.2.1 = t) && decide (o ∈ e.2.2)) = true then (e.1 : Rat) else 0 := by
      rw [rsum_comm (fun e t => if (decide (e.2.1 = t) && decide (o ∈ e.2.2)) = true then (e.1 : Rat) else 0) ((wtF E).map (·.1)) E]
      exact rsum_congr _ fun t _ => awT_q E t o
    rw [e]
    refine rsum_le _ fun e he => ?_
    have hm : e.2.1 ∈ (wtF E).map (·.1) := (w2 _).mpr (List.mem_map.mpr ⟨e, he, rfl⟩)
    rw [rsum_sub w1 (k := [e.2.1]) (by simp) (fun a ha => by rw [List.mem_singleton.mp ha]; exact hm) (fun a _ hn => by rw [decide_eq_false (show ¬ e.2.1 = a from fun z => hn (by rw [z]; simp)), Bool.false_and]; rfl)]
    show (if (decide (e.2.1 = e.2.1) && decide (o ∈ e.2.2)) = true then (e.1 : Rat) else 0) + 0 ≤ _
    rw [decide_eq_true rfl, Bool.true_and, Rat.add_zero]
    exact Rat.le_refl
  have e5 : ((lbF c.2.2 E : Int) : Rat) ≤ rsum ((wtF E).map (·.1)) (fun t => ((tbW (wtF E) t : Int) : Rat) * U t) + (L : Rat) * rsum (arF c.2.2) V := by
    rw [e1]
    refine Rat.le_trans (rsum_le _ fun t ht => Rat.le_trans (e2 t ht) (by have := e3 t ht; exact Rat.add_le_add_left.mpr this)) ?_
    rw [rsum_add]
    refine Rat.add_le_add_left.mpr ?_
    rw [rsum_comm (fun t o => ((awT E t o : Int) : Rat) * V o) (arF c.2.2) ((wtF E).map (·.1)), ← rsum_mul]
    refine rsum_le _ fun o ho => ?_
    have : (rsum ((wtF E).map (·.1)) fun t => ((awT E t o : Int) : Rat) * V o) = V o * rsum ((wtF E).map (·.1)) fun t => ((awT E t o : Int) : Rat) := by
      rw [← rsum_mul]
      exact rsum_congr _ fun t _ => Rat.mul_comm _ _
    rw [this, Rat.mul_comm (L : Rat)]
    exact Rat.mul_le_mul_of_nonneg_left (e4 o ho) (V0 o)
  refine Rat.le_trans e5 ?_
  rw [← cost_eq hc h hq]
  unfold pcW
  rw [Rat.add_mul]
  have f1 : rsum ((wtF E).map (·.1)) (fun t => ((tbW (wtF E) t : Int) : Rat) * U t) = rsum (wtF E) (pcA (tP c E Q)) * ((mkS E : Int) : Rat) := by
    rw [Rat.mul_comm, ← rsum_mul, rsum_map]
    refine rsum_congr _ fun p hpm => ?_
    rw [pcA_eq hp]
    show ((tbW (wtF E) p.1 : Int) : Rat) * U p.1 = ((mkS E : Int) : Rat) * (U p.1 * rq p.2 (tbS (wtF E)))
    rw [tbW_in w1 hpm, w3, rq_eq]
    have : ((mkS E : Int) : Rat) ≠ 0 := by grind
    grind
  have f2 : (L : Rat) * rsum (arF c.2.2) V = rsum (arF c.2.2) (pcB (tP c E Q)) * ((mkS E : Int) : Rat) := by
    rw [← hLq, Rat.mul_comm (rsum _ _), ← rsum_mul, ← rsum_mul]
    refine rsum_congr _ fun o _ => ?_
    rw [pcB_eq]
    show Q * ((mkS E : Int) : Rat) * V o = ((mkS E : Int) : Rat) * (V o * min Q 1)
    rw [hmin]
    grind
  rw [f1, f2]
  exact Rat.le_refl
end
end MF
set_option maxHeartbeats 4000000
/-! the law's mathematics: the best marking. -/
namespace MF
open PySem PySem.Spec L2 MT MJ
open PyProof.Rows hiding St
open MK (rsum rsum_congr rsum_map rsum_filter rsum_comm rsum_le rsum_zero rsum_nonneg rsum_append rsum_perm rsum_sub rsum_mul rsum_mem_le rsum_add)
theorem InD.sub {D : Int} {q r : Rat} (h1 : InD D q) (h2 : InD D r) : InD D (q - r) := by
  obtain ⟨a, rfl⟩ := h1
  obtain ⟨b, rfl⟩ := h2
  refine ⟨a - b, ?_⟩
  rw [rq_eq, rq_eq, rq_eq]
  have : ((a - b : Int) : Rat) = (a : Rat) - (b : Rat) := by grind
  rw [this]
  grind
section
variable {c : Cs} {E : List En} {q : Rat}
noncomputable abbrev bF (c : Cs) (E : List En) (q : Rat) (t : Str) : Rat := bsF (tI c E q) t
abbrev bw (E : List En) (t : Str) : Rat := rq (tbW (wtT E) t) (tbS (wtT E))
noncomputable abbrev bK (c : Cs) (E : List En) (q : Rat) : List K3 := mrK (wtT E) (chF c.2.2) (bmR (tI c E q))
theorem bD_ok (hc : CsOk c) (h : EH c E) (hq : LvOk q) : 0 < (wsX (tI c E q)).dv * (wsD (tI c E q)).unit ∧ Lb 1740 ((wsX (tI c E q)).dv * (wsD (tI c E q)).unit) := by
  have hw := ws_pre hc h hq
  exact ⟨(ws_under hw).1, lb_mul (a := 540) (b := 1200) (ws_small hw).2 (ws_unit hw)⟩
theorem bf_ok (hc : CsOk c) (h : EH c E) (hq : LvOk q) {t : Str} (ht : t ∈ tbK (wtT E)) : InD ((wsX (tI c E q)).dv * (wsD (tI c E q)).unit) (bF c E q t) ∧ 0 ≤ bF c E q t ∧ bF c E q t ≤ bw E t := by
  have O := ws_out (ws_pre hc h hq)
  refine ⟨⟨_, rfl⟩, O.f0 t ht, ?_⟩
  have := O.f1 t ht
  unfold bw
  rw [rq_eq]
  exact this
theorem bw_ok (h : EH c E) {t : Str} (ht : t ∈ tbK (wtT E)) : 0 ≤ bw E t ∧ bw E t ≤ 1 := by
  have hE := h.eg.pos
  have hS := h.eg.s0
  obtain ⟨s0, g0⟩ := wtT_s0 hE hS
  have h0 : ∀ s, 0 ≤ bw E s := fun s => rq_nn (wtT_le hE hS s).1 s0
  refine ⟨h0 t, ?_⟩
  have := rsum_mem_le (f := fun t => bw E t) (l := tbK (wtT E)) (fun s _ => h0 s) ht
  rwa [wtT_one hE hS] at this
theorem le_two (x : Rat) (h : x ≤ 1) : x ≤ ((2 ^ 1 : Int) : Rat) := Rat.le_trans h (by decide)
theorem npos {x : Rat} : 0 < x.num ↔ 0 < x := by rw [Rat.lt_iff]; simp
theorem mr1_mem {row : Rw} {ch : Chs} {k : K3} (h : k ∈ mr1 ch row) : ∃ q ∈ row, 0 < q.2.num ∧ k = (q.1, chG ch q.1, q.2) := by
  obtain ⟨q, hq, rfl⟩ := List.mem_map.mp h
  obtain ⟨a, b⟩ := List.mem_filter.mp hq
  exact ⟨q, a, of_decide_eq_true b, rfl⟩
theorem mr2_mem {row : Rw} {tb : Tbl} {k : K3} (h : k ∈ mr2 tb row) : ∃ q ∈ row, 0 < (rq (tbW tb q.1) (tbS tb) - q.2).num ∧ k = (q.1, [], rq (tbW tb q.1) (tbS tb) - q.2) := by
  obtain ⟨q, hq, rfl⟩ := List.mem_map.mp h
  obtain ⟨a, b⟩ := List.mem_filter.mp hq
  obtain ⟨p, hp, rfl⟩ := List.mem_map.mp a
  exact ⟨p, hp, of_decide_eq_true b, rfl⟩
/-- what stands in a key -/
structure BkOk (c : Cs) (E : List En) (D : Int) (k : K3) : Prop where
  tx : k.1 ∈ tbK (wtT E)
  ac : k.2.1 = chG (chF c.2.2) k.1 ∨ k.2.1 = []
  p : 0 < k.2.2
  l1 : k.2.2 ≤ 1
  d : InD (D * tbS (wtT E)) k.2.2
theorem bk_ok (hc : CsOk c) (h : EH c E) (hq : LvOk q) {k : K3} (hk : k ∈ bK c E q) : BkOk c E ((wsX (tI c E q)).dv * (wsD (tI c E q)).unit) k := by
  have hE := h.eg.pos
  have hS := h.eg.s0
  obtain ⟨s0, g0⟩ := wtT_s0 hE hS
  obtain ⟨d0, _⟩ := bD_ok hc h hq
  unfold bK mrK at hk
  rcases List.mem_append.mp hk with hk | hk
  · obtain ⟨z, hz, hp, rfl⟩ := mr1_mem hk
    obtain ⟨t, ht, rfl⟩ := List.mem_map.mp hz
    have ht : t ∈ tbK (wtT E) := ht
    obtain ⟨a, b, d⟩ := bf_ok hc h hq ht
    exact ⟨ht, .inl rfl, npos.mp hp, Rat.le_trans d (bw_ok h ht).2, a.up d0 s0⟩
  · obtain ⟨z, hz, hp, rfl⟩ := mr2_mem hk
    obtain ⟨t, ht, rfl⟩ := List.mem_map.mp hz
    have ht : t ∈ tbK (wtT E) := ht
    obtain ⟨a, b, d⟩ := bf_ok hc h hq ht
    refine ⟨ht, .inr rfl, npos.mp hp, ?_, InD.sub (InD.up2 s0 d0 ⟨_, rfl⟩) (a.up d0 s0)⟩
    have := (bw_ok h ht).2
    show bw E t - bF c E q t ≤ 1
    grind
theorem tbK_len (h : EH c E) : (tbK (wtT E)).length ≤ 12 := by
  unfold tbK
  rw [srt_length, List.length_map]; exact (wtT_len h).1
theorem bK_len (h : EH c E) : (bK c E q).length ≤ 2 * (tbK (wtT E)).length := by
  unfold bK mrK
  rw [List.length_append]
  have a := mr1_len (chF c.2.2) (bmR (tI c E q))
  have b := mr2_len (wtT E) (bmR (tI c E q))
  have e : (bmR (tI c E q)).length = (tbK (wtT E)).length := by show ((tbK (wtT E)).map _).length = _; rw [List.length_map]
  omega
theorem bw_in (hc : CsOk c) (h : EH c E) (hq : LvOk q) : WpIn ((wsX (tI c E q)).dv * (wsD (tI c E q)).unit * tbS (wtT E)) (mrP (wtT E) (chF c.2.2) (bmR (tI c E q))) := by
  have hE := h.eg.pos
  have hS := h.eg.s0
  obtain ⟨s0, g0⟩ := wtT_s0 hE hS
  obtain ⟨d0, db⟩ := bD_ok hc h hq
  have hD := Int.mul_pos d0 s0
  have hl : Lb 1940 ((wsX (tI c E q)).dv * (wsD (tI c E q)).unit * tbS (wtT E)) := lb_mul (a := 1740) (b := 200) db (lb_up h.s200 (by omega) (wtT_S_le hE hS).1)
  have hm : ∀ x ∈ mrP (wtT E) (chF c.2.2) (bmR (tI c E q)), ∃ k, BkOk c E ((wsX (tI c E q)).dv * (wsD (tI c E q)).unit) k ∧ x = k.2.2 := fun x hx => by
    obtain ⟨k, hk, rfl⟩ := List.mem_map.mp hx
    exact ⟨k, bk_ok hc h hq hk, rfl⟩
  refine ⟨hD, lb_mono hl (by decide), fun x hx => ?_, fun x hx => ?_, fun x hx => ?_, ?_⟩
  · obtain ⟨k, b, rfl⟩ := hm x hx
    exact b.d.den hD
  · obtain ⟨k, b, rfl⟩ := hm x hx
    exact b.d.small hD hl (Rat.le_of_lt b.p) (le_two _ b.l1) (by decide)
  · obtain ⟨k, b, rfl⟩ := hm x hx
    exact npos.mpr b.p
  · unfold mrP
    rw [List.length_map]
    have := bK_len (q := q) h
    have := tbK_len h
    unfold bK at *
    omega
theorem bm_pre (hc : CsOk c) (h : EH c E) (hq : LvOk q) : BmPre (tI c E q) := by
  have hE := h.eg.pos
  have hS := h.eg.s0
  obtain ⟨s0, g0⟩ := wtT_s0 hE hS
  have hw := ws_pre hc h hq
  obtain ⟨d0, db⟩ := bD_ok hc h hq
  have sb : Lb 200 (tbS (wtT E)) := lb_up h.s200 (by omega) (wtT_S_le hE hS).1
  have hkr : ∀ z ∈ bmR (tI c E q), z.1 ∈ tbK (wtT E) ∧ z.2 = bF c E q z.1 := fun z hz => by
    obtain ⟨t, ht, rfl⟩ := List.mem_map.mp hz
    exact ⟨ht, rfl⟩
  refine ⟨hw, ⟨by have := (wtT_len h).1; show (wtT E).length < 64; omega, hw.pk.sub, fun z hz => ?_, ?_, s0, lb_mono sb (by decide), fun z hz => ?_, fun z hz => ?_, fun t => by have := (cg_len hc t).2; show (chG (chF c.2.2) t).length < 64; omega, ⟨_, bw_in hc h hq⟩⟩⟩
  · show z.1 ∈ (chF c.2.2).map (·.1)
    rw [chF_keys, hc.rk]
    exact key_pool h.eg ((tbK_mem hE _).mp (hkr z hz).1)
  · show ((tbK (wtT E)).map _).length ≤ 100
    rw [List.length_map]
    have := tbK_len h
    omega
  · obtain ⟨a, e⟩ := hkr z hz
    rw [e]
    obtain ⟨f1, f2, f3⟩ := bf_ok hc h hq a
    exact f1.small d0 db f2 (le_two _ (Rat.le_trans f3 (bw_ok h a).2)) (by decide)
  · exact rq_sm s0 (lb_mono (lb_up h.s200 (wtT_le hE hS _).1 (wtT_le hE hS _).2) (by decide)) (lb_mono sb (by decide))
/-! ### the weights of the keys -/
theorem zip_map {α β : Type} (F : α → β) (l : List α) (G : α × Nat → β) (h : ∀ q ∈ l.zipIdx, G q = F q.1) : l.zipIdx.map G = l.map F := by
  refine List.ext_getElem? fun j => ?_
  rw [List.getElem?_map, List.getElem?_map, List.getElem?_zipIdx]
  cases z : l[j]? with
  | none => rfl
  | some x =>
    have hm : (x, j) ∈ l.zipIdx := List.mem_of_getElem? (i := j) (by rw [List.getElem?_zipIdx, z]; simp)
    simp only [Option.map_some, Nat.zero_add]
    rw [h _ hm]
noncomputable abbrev bU (c : Cs) (E : List En) (q : Rat) : Int := wpU (mrP (wtT E) (chF c.2.2) (bmR (tI c E q)))
noncomputable abbrev bG (c : Cs) (E : List En) (q : Rat) : Int := wpG (wpP (mrP (wtT E) (chF c.2.2) (bmR (tI c E q))))
noncomputable abbrev bwt (c : Cs) (E : List En) (q : Rat) (k : K3) : Int := k.2.2.num * (bU c E q / k.2.2.den) / bG c E q
noncomputable abbrev bE (c : Cs) (E : List En) (q : Rat) : List En := bmE (tI c E q)
theorem bE_map : bE c E q = (bK c E q).map fun k => (bwt c E q k, k.1, srt k.2.1) := by
  have e : mrE (wtT E) (chF c.2.2) (bmR (tI c E q)) = (bK c E q).map fun k => (bwt c E q k, k.1, k.2.1) := by
    unfold mrE
    refine zip_map (fun k : K3 => (bwt c E q k, k.1, k.2.1)) _ _ fun z hz => ?_
    have hx := zip_mem hz
    have ew : (mrW (wtT E) (chF c.2.2) (bmR (tI c E q)))[z.2]? = some (bwt c E q z.1) := by
      unfold mrW wpP mrP
      rw [List.getElem?_map, List.getElem?_map, List.getElem?_map, hx]; rfl
    rw [List.getD_eq_getElem?_getD, ew]; rfl
  show mkF (mrE (wtT E) (chF c.2.2) (bmR (tI c E q))) = _
  rw [e]
  unfold mkF
  rw [List.map_map]; rfl
/-- the factor of all weights -/
noncomputable def bκ (c : Cs) (E : List En) (q : Rat) : Rat := ((bU c E q : Int) : Rat) / ((bG c E q : Int) : Rat)
theorem bU_ok (hc : CsOk c) (h : EH c E) (hq : LvOk q) : 0 < bU c E q ∧ bU c E q ∣ (wsX (tI c E q)).dv * (wsD (tI c E q)).unit * tbS (wtT E) := by
  have hu := wpU_ok (bw_in hc h hq) (mrP (wtT E) (chF c.2.2) (bmR (tI c E q))).length
  rw [List.take_length] at hu
  exact hu
theorem bK_ne (hc : CsOk c) (h : EH c E) (hq : LvOk q) : ∃ k, k ∈ bK c E q := by
  have hE := h.eg.pos
  have hS := h.eg.s0
  have one := wtT_one hE hS
  by_cases hz : ∃ t ∈ tbK (wtT E), 0 < bw E t
  · obtain ⟨t, ht, hp⟩ := hz
    have hm : (t, bF c E q t) ∈ bmR (tI c E q) := List.mem_map.mpr ⟨t, ht, rfl⟩
    by_cases hf : 0 < bF c E q t
    · exact ⟨(t, chG (chF c.2.2) t, bF c E q t), List.mem_append_left _ (List.mem_map.mpr ⟨_, List.mem_filter.mpr ⟨hm, decide_eq_true (npos.mpr hf)⟩, rfl⟩)⟩
    · have f2 := (bf_ok hc h hq ht).2.1
      have hd : 0 < bw E t - bF c E q t := by grind
      exact ⟨(t, [], bw E t - bF c E q t), List.mem_append_right _ (List.mem_map.mpr ⟨_, List.mem_filter.mpr ⟨List.mem_map.mpr ⟨_, hm, rfl⟩, decide_eq_true (npos.mpr hd)⟩, rfl⟩)⟩
  · exfalso
    have : rsum (tbK (wtT E)) (fun t => rq (tbW (wtT E) t) (tbS (wtT E))) = 0 := rsum_zero _ fun t ht => by
      have h0 := (bw_ok h ht).1
      have h1 : ¬ 0 < bw E t := fun z => hz ⟨t, ht, z⟩
      show bw E t = 0
      grind
    rw [this] at one
    exact absurd one (by decide)
theorem bG_pos (hc : CsOk c) (h : EH c E) (hq : LvOk q) : 0 < bG c E q := by
  have hw := bw_in hc h hq
  obtain ⟨k, hk⟩ := bK_ne hc h hq
  have hx : k.2.2 ∈ mrP (wtT E) (chF c.2.2) (bmR (tI c E q)) := List.mem_map.mpr ⟨k, hk, rfl⟩
  have h1 := wpP_at hw hx
  have hm : k.2.2.num * (wpU (mrP (wtT E) (chF c.2.2) (bmR (tI c E q))) / k.2.2.den) ∈ wpP (mrP (wtT E) (chF c.2.2) (bmR (tI c E q))) := List.mem_map.mpr ⟨_, hx, rfl⟩
  have h2 := (wpG_dvd (wpP (mrP (wtT E) (chF c.2.2) (bmR (tI c E q)))) 0 fun p hp => (wpP_mem hw hp).1).2 _ hm
  have h3 : 0 ≤ bG c E q := wpG_nn _ _ (by decide)
  rcases Int.lt_or_eq_of_le h3 with z | z
  · exact z
  · have h2 : bG c E q ∣ _ := h2
    rw [← z, Int.zero_dvd] at h2
    omega
theorem bwt_q (hc : CsOk c) (h : EH c E) (hq : LvOk q) {k : K3} (hk : k ∈ bK c E q) : ((bwt c E q k : Int) : Rat) = k.2.2 * bκ c E q := by
  have hw := bw_in hc h hq
  have hx : k.2.2 ∈ mrP (wtT E) (chF c.2.2) (bmR (tI c E q)) := List.mem_map.mpr ⟨k, hk, rfl⟩
  have hG := bG_pos hc h hq
  have hm : k.2.2.num * (bU c E q / k.2.2.den) ∈ wpP (mrP (wtT E) (chF c.2.2) (bmR (tI c E q))) := List.mem_map.mpr ⟨_, hx, rfl⟩
  have h2 := (wpG_dvd (wpP (mrP (wtT E) (chF c.2.2) (bmR (tI c E q)))) 0 fun p hp => (wpP_mem hw hp).1).2 _ hm
  have h2 : bG c E q ∣ k.2.2.num * (bU c E q / k.2.2.den) := h2
  obtain ⟨_, _, _, hdd⟩ := fold_u (D := (wsX (tI c E q)).dv * (wsD (tI c E q)).unit * tbS (wtT E)) (mrP (wtT E) (chF c.2.2) (bmR (tI c E q))) 1 (by decide) (Int.one_dvd _) hw.dv
  have hd : (k.2.2.den : Int) ∣ bU c E q := hdd _ hx
  have e1 : bwt c E q k * bG c E q = k.2.2.num * (bU c E q / k.2.2.den) := Int.ediv_mul_cancel h2
  have e2 : bU c E q / k.2.2.den * k.2.2.den = bU c E q := Int.ediv_mul_cancel hd
  have hs : rq k.2.2.num k.2.2.den = k.2.2 := rq_self k.2.2
  rw [rq_eq] at hs
  have c1 : ((bwt c E q k : Int) : Rat) * ((bG c E q : Int) : Rat) = (k.2.2.num : Rat) * ((bU c E q / k.2.2.den : Int) : Rat) := by rw [← Rat.intCast_mul, ← Rat.intCast_mul, e1]
  have c2 : ((bU c E q / k.2.2.den : Int) : Rat) * ((k.2.2.den : Int) : Rat) = ((bU c E q : Int) : Rat) := by rw [← Rat.intCast_mul, e2]
  have g0 := MK.cast_pos hG
  have n0 := MK.cast_pos (den_pos k.2.2)
  unfold bκ
  generalize ((bwt c E q k : Int) : Rat) = x at *
  generalize ((bG c E q : Int) : Rat) = g at *
  generalize ((bU c E q : Int) : Rat) = u at *
  generalize ((bU c E q / k.2.2.den : Int) : Rat) = v at *
  generalize (k.2.2.num : Rat) = a at *
  generalize ((k.2.2.den : Int) : Rat) = d at *
  have hg : g ≠ 0 := by grind
  have hd : d ≠ 0 := by grind
  have e3 : a = k.2.2 * d := by rw [← hs]; grind
  have e4 : x = a * v / g := by grind
  rw [e4, e3, ← c2]
  grind
theorem bκ_pos (hc : CsOk c) (h : EH c E) (hq : LvOk q) : 0 < bκ c E q := by
  have u0 := MK.cast_pos (bU_ok hc h hq).1
  have g0 := MK.cast_pos (bG_pos hc h hq)
  unfold bκ
  rw [Rat.div_def]
  exact Rat.mul_pos u0 (Rat.inv_pos.mpr g0)
/-- a sum over the keys -/
theorem bsum (hc : CsOk c) (h : EH c E) (hq : LvOk q) (φ : Str → List Str → Rat) : rsum (bK c E q) (fun k => φ k.1 k.2.1 * k.2.2) = rsum (tbK (wtT E)) (fun t => φ t (chG (chF c.2.2) t) * bF c E q t) + rsum (tbK (wtT E)) (fun t => φ t [] * (bw E t - bF c E q t)) := by
  unfold bK mrK
  rw [rsum_append]
  congr 1
  · unfold mr1
    rw [rsum_map, rsum_filter]
    show rsum ((tbK (wtT E)).map _) _ = _
    rw [rsum_map]
    refine rsum_congr _ fun t ht => ?_
    show (if decide (0 < (bF c E q t).num) = true then φ t (chG (chF c.2.2) t) * bF c E q t else 0) = _
    have f0 := (bf_ok hc h hq ht).2.1
    by_cases z : 0 < (bF c E q t).num
    · rw [if_pos (decide_eq_true z)]
    · rw [if_neg (by rw [decide_eq_false z]; decide)]
      have : bF c E q t = 0 := by
        have := fun y => z (npos.mpr y)
        grind
      rw [this]; grind
  · unfold mr2
    rw [rsum_map, rsum_filter, rsum_map]
    show rsum ((tbK (wtT E)).map _) _ = _
    rw [rsum_map]
    refine rsum_congr _ fun t ht => ?_
    show (if decide (0 < (bw E t - bF c E q t).num) = true then φ t [] * (bw E t - bF c E q t) else 0) = _
    have f0 := (bf_ok hc h hq ht).2.2
    by_cases z : 0 < (bw E t - bF c E q t).num
    · rw [if_pos (decide_eq_true z)]
    · rw [if_neg (by rw [decide_eq_false z]; decide)]
      have : bw E t - bF c E q t = 0 := by
        have := fun y => z (npos.mpr y)
        grind
      rw [this]; grind
/-- .. over the entries -/
theorem bsumE (hc : CsOk c) (h : EH c E) (hq : LvOk q) (φ : Str → List Str → Bool) (f : En → Rat) (hf : ∀ w t a, f (w, t, srt a) = if φ t a = true then (w : Rat) else 0) : rsum (bE c E q) f = bκ c E q * (rsum (tbK (wtT E)) (fun t => (if φ t (chG (chF c.2.2) t) = true then bF c E q t else 0)) + rsum (tbK (wtT E)) (fun t => if φ t [] = true then bw E t - bF c E q t else 0)) := by
  rw [bE_map, rsum_map]
  have e1 : rsum (bK c E q) (fun k => f (bwt c E q k, k.1, srt k.2.1)) = bκ c E q * rsum (bK c E q) fun k => (if φ k.1 k.2.1 = true then 1 else 0) * k.2.2 := by
    rw [← rsum_mul]
    refine rsum_congr _ fun k hk => ?_
    rw [hf, bwt_q hc h hq hk]
    split
    · grind
    · grind
  rw [e1, bsum hc h hq fun t a => if φ t a = true then 1 else 0]
  congr 2
  · refine rsum_congr _ fun t _ => ?_
    split
    · grind
    · grind
  · refine rsum_congr _ fun t _ => ?_
    split
    · grind
    · grind
theorem bE_S (hc : CsOk c) (h : EH c E) (hq : LvOk q) : ((mkS (bE c E q) : Int) : Rat) = bκ c E q := by
  rw [mkS_q, bsumE hc h hq (fun _ _ => true) (fun e => (e.1 : Rat)) fun w t a => by rw [if_pos rfl], ← rsum_add]
  have e : rsum (tbK (wtT E)) (fun t => (if true = true then bF c E q t else 0) + (if true = true then bw E t - bF c E q t else 0)) = rsum (tbK (wtT E)) fun t => rq (tbW (wtT E) t) (tbS (wtT E)) := rsum_congr _ fun t _ => by rw [if_pos rfl, if_pos rfl]; show _ = bw E t; grind
  rw [e, wtT_one h.eg.pos h.eg.s0]; grind
theorem bE_eg (hc : CsOk c) (h : EH c E) (hq : LvOk q) : EG c (bE c E q) := by
  have hE := h.eg.pos
  have κ0 := bκ_pos hc h hq
  have s0 : 0 < mkS (bE c E q) := by
    have := bE_S hc h hq
    rw [← this] at κ0
    exact Rat.intCast_pos.mp κ0
  have hkm : ∀ e ∈ bE c E q, ∃ k ∈ bK c E q, e = (bwt c E q k, k.1, srt k.2.1) := fun e he => by
    rw [bE_map] at he
    obtain ⟨k, hk, rfl⟩ := List.mem_map.mp he
    exact ⟨k, hk, rfl⟩
  have hac : ∀ k ∈ bK c E q, (srt k.2.1).Nodup ∧ (srt k.2.1).length < 64 := fun k hk => by
    rcases (bk_ok hc h hq hk).ac with e | e
    · rw [e]
      have := cg_len hc k.1
      exact ⟨srt_nodup this.1, by rw [srt_length]; omega⟩
    · rw [e]
      exact ⟨srt_nodup List.nodup_nil, by rw [srt_length]; decide⟩
  refine ⟨?_, fun e he => ?_, fun e he => ?_, fun e he => ?_, fun e he => ?_, s0, ?_⟩
  · rw [bE_map, List.length_map]
    have := bK_len (q := q) h
    have := tbK_len h
    omega
  · obtain ⟨k, hk, rfl⟩ := hkm e he
    have := bwt_q hc h hq hk
    have hp := Rat.mul_pos (bk_ok hc h hq hk).p κ0
    rw [← this] at hp
    have := Rat.intCast_pos.mp hp
    show 1 ≤ bwt c E q k
    omega
  · obtain ⟨k, hk, rfl⟩ := hkm e he
    exact key_pool h.eg ((tbK_mem hE _).mp (bk_ok hc h hq hk).tx)
  · obtain ⟨k, hk, rfl⟩ := hkm e he
    exact (hac k hk).1
  · obtain ⟨k, hk, rfl⟩ := hkm e he
    exact (hac k hk).2
  · obtain ⟨u0, ud⟩ := bU_ok hc h hq
    have hw := bw_in hc h hq
    have hG := bG_pos hc h hq
    have e : mkS (bE c E q) * bG c E q = bU c E q := cast_inj (by
      rw [Rat.intCast_mul, bE_S hc h hq]
      unfold bκ
      have g0 := MK.cast_pos hG
      have : ((bG c E q : Int) : Rat) ≠ 0 := by grind
      grind)
    have hle : mkS (bE c E q) ≤ bU c E q := by
      have := Int.mul_le_mul_of_nonneg_left (show 1 ≤ bG c E q by omega) (show 0 ≤ mkS (bE c E q) by omega)
      omega
    obtain ⟨d0, db⟩ := bD_ok hc h hq
    obtain ⟨s0', g0'⟩ := wtT_s0 hE h.eg.s0
    have hl : Lb 1940 ((wsX (tI c E q)).dv * (wsD (tI c E q)).unit * tbS (wtT E)) := lb_mul (a := 1740) (b := 200) db (lb_up h.s200 (by omega) (wtT_S_le hE h.eg.s0).1)
    exact lb_mono (lb_up (lb_dvd hl (Int.mul_pos d0 s0') ud) (by omega) hle) (by decide)
theorem bW_sum (hc : CsOk c) (h : EH c E) (hq : LvOk q) : rsum (tbK (wtT E)) (bF c E q) = wsW (tI c E q) := (ws_out (ws_pre hc h hq)).sum
theorem lk_in {t : Str} {a : List Str} {w : Int} (ha : ∀ x ∈ chG c.2.2 t, x ∈ a) : lkP c.2.2 (w, t, srt a) = true := by
  unfold lkP
  refine decide_eq_true ?_
  rw [List.length_eq_zero_iff, List.filter_eq_nil_iff]
  intro x hx
  have := srt_mem.mpr (ha x hx)
  simp [this]
/-- found, of the best marking -/
theorem bE_lk (hc : CsOk c) (h : EH c E) (hq : LvOk q) : ((lkF c.2.2 (bE c E q) : Int) : Rat) = wsW (tI c E q) * ((mkS (bE c E q) : Int) : Rat) := by
  have hE := h.eg.pos
  rw [lkF_q, bE_S hc h hq, bsumE hc h hq (fun t a => lkP c.2.2 (0, t, srt a)) (fun e => if lkP c.2.2 e = true then (e.1 : Rat) else 0) fun w t a => rfl]
  have e1 : rsum (tbK (wtT E)) (fun t => if lkP c.2.2 (0, t, srt (chG (chF c.2.2) t)) = true then bF c E q t else 0) = wsW (tI c E q) := by
    rw [← bW_sum hc h hq]
    refine rsum_congr _ fun t ht => ?_
    have htp := key_pool h.eg ((tbK_mem hE t).mp ht)
    rw [if_pos (lk_in fun x hx => ((cg_mem hc htp).2 x).mpr hx)]
  have e2 : rsum (tbK (wtT E)) (fun t => if lkP c.2.2 (0, t, srt []) = true then bw E t - bF c E q t else 0) = 0 := by
    refine rsum_zero _ fun t ht => ?_
    have htp := key_pool h.eg ((tbK_mem hE t).mp ht)
    rw [if_neg]
    intro z
    unfold lkP at z
    have z := of_decide_eq_true z
    rw [List.length_eq_zero_iff, List.filter_eq_nil_iff] at z
    have hm := (chG_ok hc htp).own
    have := z t hm
    have hn : ¬ t ∈ srt ([] : List Str) := fun y => by have := srt_mem.mp y; cases this
    simp [hn] at this
  rw [e1, e2]; grind
theorem bE_aw (hc : CsOk c) (h : EH c E) (hq : LvOk q) {t o : Str} (ht : t ∈ tbK (wtT E)) (ho : o ∈ chG c.2.2 t) : ((awT (bE c E q) t o : Int) : Rat) = bκ c E q * bF c E q t := by
  have hE := h.eg.pos
  have htp := key_pool h.eg ((tbK_mem hE t).mp ht)
  rw [awT_q, bsumE hc h hq (fun s a => decide (s = t) && decide (o ∈ a)) (fun e => if (decide (e.2.1 = t) && decide (o ∈ e.2.2)) = true then (e.1 : Rat) else 0) fun w s a => by
    show (if (decide (s = t) && decide (o ∈ srt a)) = true then (w : Rat) else 0) = _
    rw [decide_eq_decide.mpr (srt_mem (xs := a) (x := o))]]
  have nd : (tbK (wtT E)).Nodup := srt_nodup (wtT_nd hE)
  have e1 : rsum (tbK (wtT E)) (fun s => if (decide (s = t) && decide (o ∈ chG (chF c.2.2) s)) = true then bF c E q s else 0) = bF c E q t := by
    rw [rsum_sub nd (k := [t]) (by simp) (fun a ha => by rw [List.mem_singleton.mp ha]; exact ht) (fun a _ hn => by rw [decide_eq_false (show ¬ a = t from fun z => hn (by rw [z]; simp)), Bool.false_and]; rfl)]
    show (if (decide (t = t) && decide (o ∈ chG (chF c.2.2) t)) = true then bF c E q t else 0) + 0 = _
    rw [decide_eq_true rfl, decide_eq_true (((cg_mem hc htp).2 o).mpr ho), Rat.add_zero]; rfl
  have e2 : rsum (tbK (wtT E)) (fun s => if (decide (s = t) && decide (o ∈ ([] : List Str))) = true then bw E s - bF c E q s else 0) = 0 := rsum_zero _ fun s _ => by
    rw [decide_eq_false (show ¬ o ∈ ([] : List Str) from List.not_mem_nil), Bool.and_false]; rfl
  rw [e1, e2]; grind
/-- blind, of the best marking -/
theorem bE_lb (hc : CsOk c) (h : EH c E) (hq : LvOk q) : ((lbF c.2.2 (bE c E q) : Int) : Rat) = wsW (tI c E q) * ((mkS (bE c E q) : Int) : Rat) := by
  have hE := h.eg.pos
  have eg := bE_eg hc h hq
  have nd : (tbK (wtT E)).Nodup := srt_nodup (wtT_nd hE)
  have hs : ∀ t ∈ tbK (wtT E), t ∈ c.1 := fun t ht => key_pool h.eg ((tbK_mem hE t).mp ht)
  rw [lbF_q, hc.rk, bE_S hc h hq, rsum_sub hc.pn nd hs fun t ht hn => by
    rw [lb_out eg.pos hc ht fun z => hn ?_]
    · rfl
    · obtain ⟨e, he, rfl⟩ := List.mem_map.mp z
      rw [bE_map] at he
      obtain ⟨k, hk, rfl⟩ := List.mem_map.mp he
      exact (bk_ok hc h hq hk).tx]
  rw [← bW_sum hc h hq, Rat.mul_comm, ← rsum_mul]
  refine rsum_congr _ fun t ht => ?_
  obtain ⟨o, ho, eo⟩ := (lbT_mn eg.pos (rd_ne hc (hs t ht))).at_
  rw [eo, bE_aw hc h hq ht ho]
theorem num_eq {W : Rat} {a S : Int} (h : (a : Rat) = W * (S : Rat)) : a * W.den = W.num * S := cast_inj (by
  have hd := MK.cast_pos (den_pos W)
  have e : (W.num : Rat) = W * ((W.den : Int) : Rat) := by
    have hs : rq W.num W.den = W := rq_self W
    rw [rq_eq] at hs
    have : ((W.den : Int) : Rat) ≠ 0 := by grind
    grind
  rw [Rat.intCast_mul, Rat.intCast_mul, e, h]
  grind)
theorem rq_of {W : Rat} {a S : Int} (hS : 0 < S) (h : (a : Rat) = W * (S : Rat)) : rq a S = W := by
  rw [rq_eq, h]
  have := MK.cast_pos hS
  have : (S : Rat) ≠ 0 := by grind
  grind
theorem bf_pre (hc : CsOk c) (h : EH c E) (hq : LvOk q) : BfPre ⟨tW c E q, c.1⟩ := by
  have hE := h.eg.pos
  have eg := bE_eg hc h hq
  have lk := bE_lk hc h hq
  have lb := bE_lb hc h hq
  have W1 : wsW (tI c E q) ≤ 1 := by
    rw [← bW_sum hc h hq, ← wtT_one hE h.eg.s0]
    exact rsum_le _ fun t ht => (bf_ok hc h hq ht).2.2
  have hle : lbF c.2.2 (bE c E q) ≤ mkS (bE c E q) := cast_le (by
    rw [lb]
    have := Rat.mul_le_mul_of_nonneg_right W1 (MK.cast_nn (Int.le_of_lt eg.s0))
    rwa [Rat.one_mul] at this)
  obtain ⟨b0, k0⟩ := eg.bn hc
  have fb := eg.fb hc
  refine ⟨wd_pre hc h hq, bm_pre hc h hq, ⟨?_, ?_, fun e he => ⟨eg.pos e he, eg.key e he⟩⟩, eg.lw hc false, eg.bd hc, num_eq lk, num_eq lb, ?_, ?_, lb_mono (lb_up eg.sb k0 (Int.le_trans fb hle)) (by decide), lb_mono (lb_up eg.sb b0 hle) (by decide), ws_sm hc h hq⟩
  · show (bE c E q).length ≤ 2 * c.1.length
    rw [bE_map, List.length_map]
    have h1 := bK_len (q := q) h
    have h2 := nd_sub_len (srt_nodup (wtT_nd hE)) (m := c.1) fun t ht => key_pool h.eg ((tbK_mem hE t).mp ht)
    have h2 : (tbK (wtT E)).length ≤ c.1.length := h2
    omega
  · have := hc.pl
    show c.1.length ≤ 64
    omega
  · show rq (fsF (chF c.2.2) (bE c E q)) (mkS (bE c E q)) = _
    rw [eg.fs hc]
    exact rq_of eg.s0 lk
  · show rs (bdL (chF c.2.2, bE c E q)) = _
    rw [eg.bs hc]
    exact rq_of eg.s0 lb
end
end MF
set_option maxHeartbeats 4000000
/-! the law's mathematics: all that the law must know of its entries. -/
namespace MF
open PySem PySem.Spec L2 MT MJ
open PyProof.Rows hiding St
open MK (rsum rsum_congr rsum_map rsum_le)
section
variable {c : Cs} {es : List En}
theorem es_ps (h : EsOk c es) : Ps es := fun e he => (h.each e he).w1
theorem es_s0 (h : EsOk c es) : 0 < mkS es := by
  cases z : es with
  | nil => exact absurd z h.ne
  | cons e l =>
    have hm : e ∈ es := by rw [z]; exact List.mem_cons_self
    have h1 := mem_le (es_ps h) hm
    have h2 := es_ps h e hm
    rw [← z]; omega
theorem es_sb (h : EsOk c es) : Lb 200 (mkS es) := by
  have h1 : mkS es ≤ 12 * W40 := cast_le (by
    rw [mkS_q]
    refine Rat.le_trans (rsum_len (c := ((W40 : Int) : Rat)) es fun e he => cast_le' (by have := (h.each e he).w2; omega)) ?_
    have e : (es.length : Rat) * ((W40 : Int) : Rat) = (((es.length : Int) * W40 : Int) : Rat) := by rw [Rat.intCast_mul]; rfl
    rw [e]
    exact cast_le' (Int.mul_le_mul_of_nonneg_right (by have := h.len; omega) (by decide)))
  have h0 := es_s0 h
  exact lb_up (b := 12 * W40) (by unfold Lb; decide) (by omega) h1
theorem es_al (hc : CsOk c) (h : EsOk c es) {e : En} (he : e ∈ es) : e.2.2.length ≤ 16 := Nat.le_trans (nd_sub_len (h.each e he).ac.nd (h.each e he).ac.sub) hc.ol
theorem es_eh (hc : CsOk c) (h : EsOk c es) : EH c (mkF es) := by
  have hl := h.len
  have ml : (mkF es).length = es.length := by unfold mkF; rw [List.length_map]
  have hm : ∀ e' ∈ mkF es, ∃ e ∈ es, e' = (e.1, e.2.1, srt e.2.2) := fun e' he => by
    obtain ⟨e, hx, rfl⟩ := List.mem_map.mp he
    exact ⟨e, hx, rfl⟩
  have hS := mkS_F es
  refine ⟨⟨by omega, fun e' he => ?_, fun e' he => ?_, fun e' he => ?_, fun e' he => ?_, by rw [hS]; exact es_s0 h, by rw [hS]; exact lb_mono (es_sb h) (by decide)⟩, by omega, by rw [hS]; exact es_sb h⟩
  · obtain ⟨e, hx, rfl⟩ := hm e' he
    exact es_ps h e hx
  · obtain ⟨e, hx, rfl⟩ := hm e' he
    exact (h.each e hx).tx
  · obtain ⟨e, hx, rfl⟩ := hm e' he
    exact srt_nodup (h.each e hx).ac.nd
  · obtain ⟨e, hx, rfl⟩ := hm e' he
    have := es_al hc h hx
    show (srt e.2.2).length < 64
    rw [srt_length]; omega
theorem lm_F (os : List Str) (es : List En) : lmF os (mkF es) = lmF os es := by
  rw [lm_amx, lm_amx]
  congr 1
  exact List.map_congr_left fun o _ => awS_F es o
theorem aw_le_s {E : List En} (hE : Ps E) (o : Str) : awS E o ≤ mkS E := cast_le (by
  rw [awS_q, mkS_q]
  refine rsum_le _ fun e he => ?_
  split
  · exact Rat.le_refl
  · exact hE.q he)
theorem lm_b {E : List En} (hE : Ps E) (hS : 0 < mkS E) (os : List Str) : 0 ≤ lmF os E ∧ lmF os E ≤ mkS E := by
  refine ⟨(lm_le os E).1, ?_⟩
  rw [lm_amx]
  obtain ⟨h, _⟩ := amx_ok (os.map (awS E))
  rcases List.mem_cons.mp h with z | z
  · rw [z]; omega
  · obtain ⟨o, _, e⟩ := List.mem_map.mp z
    rw [← e]; exact aw_le_s hE o
theorem wh_ok (hc : CsOk c) (h : EsOk c es) : WhOk c es := by
  have eh := es_eh hc h
  have eg := eh.eg
  have hS := mkS_F es
  have s0 := es_s0 h
  have sb := es_sb h
  have hl := h.len
  obtain ⟨l0, l1⟩ := lm_b (es_ps h) s0 c.2.1
  have lv : LvOk (rq (lmF c.2.1 es) (mkS es)) := by
    refine ⟨rq_nn l0 s0, ?_, ?_⟩
    · rw [rq_num s0]; exact lb_div (lb_up sb l0 l1)
    · rw [rq_den s0]; exact lb_div sb
  have wd : ∀ q, LvOk q → WdPre (whI c es q) := fun q hq => by
    have := wd_pre hc eh hq
    unfold tW at this
    rw [wtF_F] at this
    exact this
  have bf : ∀ q, LvOk q → BfPre ⟨whI c es q, c.1⟩ := fun q hq => by
    have := bf_pre hc eh hq
    unfold tW at this
    rw [wtF_F] at this
    exact this
  have fb := eg.fb hc
  rw [lkF_F, lbF_F] at fb
  obtain ⟨b0, _⟩ := eg.bn hc
  rw [lbF_F] at b0
  have bl : lbF c.2.2 es ≤ 8 * mkS es := cast_le (by
    rw [← lbF_F, lbF_q, hc.rk]
    refine Rat.le_trans (rsum_len (c := ((mkS es : Int) : Rat)) c.1 fun t ht => cast_le' (by rw [← hS]; exact lb_le_s eg.pos hc ht)) ?_
    have e : (c.1.length : Rat) * ((mkS es : Int) : Rat) = (((c.1.length : Int) * mkS es : Int) : Rat) := by rw [Rat.intCast_mul]; rfl
    rw [e]
    exact cast_le' (Int.mul_le_mul_of_nonneg_right (by have := hc.pl; omega) (by omega)))
  refine ⟨⟨by omega, es_ps h, fun e he => by have := es_al hc h he; omega⟩, eg.mo, eg.bd hc, ⟨by show es.length ≤ 64; omega, fun e he => ?_, fun t => ?_, ?_, rd_nd hc⟩, fb, ?_, ?_, ?_, s0, sb, fun hz => ?_, ?_, ?_, lv, wd, bf, fun _ => ?_, fun q hq => ws_sm hc eh hq⟩
  · show e.2.1 ∈ c.2.2.map (·.1)
    rw [hc.rk]; exact (h.each e he).tx
  · have := (rd_len hc t).2
    show (chG c.2.2 t).length ≤ 64
    omega
  · show c.2.2.length ≤ 64
    rw [rd_l hc]; have := hc.pl; omega
  · rw [eg.fs hc, lkF_F, hS]
  · rw [eg.bs hc, lbF_F, hS]
  · rw [am_eq (os := c.2.1) eg.nd fun e' he x hx => ?_, lm_F, hS]
    obtain ⟨e, hm, rfl⟩ := List.mem_map.mp he
    exact (h.each e hm).ac.sub x (srt_mem.mp hx)
  · have := eg.m0 hc (by rw [lm_F]; exact hz)
    rwa [lbF_F] at this
  · have h1 := (wtT_S_le eg.pos eg.s0).2
    have h2 := (wtT_s0 eg.pos eg.s0).2
    rw [hS] at h1
    exact lb_mono (lb_up sb (by omega) h1) (by decide)
  · exact lb_mono (lb_up (b := 8 * mkS es) (lb_mul (a := 4) (b := 200) (by unfold Lb; decide) sb) b0 bl) (by decide)
  · have lv' : LvOk (rq (lmF c.2.1 es) (mkS (mkF es))) := by rw [hS]; exact lv
    have hle := blind_le hc eh (L := lmF c.2.1 es) (fun o ho => by rw [awS_F]; exact (lm_le c.2.1 es).2 o ho) lv' (by
      rw [hS, rq_eq]
      have h1 := cast_le' l1
      have h2 := MK.cast_pos s0
      have h3 := MK.div_le h2 h1
      have h4 : ((mkS es : Int) : Rat) / ((mkS es : Int) : Rat) = 1 := by grind
      rwa [h4] at h3)
    rw [hS, lbF_F] at hle
    exact num_le s0 hle
end
end MF
set_option maxHeartbeats 0
/-! The end. -/
namespace MF
open PySem PySem.Spec L2 MT MJ
open PyProof.Rows hiding St
theorem facts {P : Program} {w : World} {K : PySem.W.Frag} {h : Heap} {mg : Str → Option Value} {f : Addr} (X : K.In h) (G : h.Ns mainGlobals mg) (hfa : mg ("law" : Str) = some (.ref f)) (c : SaysM fa fn exB K) (wh : ∀ c es, CsOk c → EsOk c es → WhOk c es) :
    ∃ fd : FuncData, (∀ (s : Shared) (v : Value), BindsTo s fd ⟨[v], []⟩ [("_law_script", v)]) ∧ ∀ base : Heap, K.In base → base.Ns mainGlobals mg → FnOk P w K mg base CX0 12 f fd ["_law_script"] (sp_law K) := by
  have T : Tx K mg := ⟨c, h, X, G⟩
  obtain ⟨fd, F⟩ := T.d_law
  have e := hfa.symm.trans T.glaw
  cases e
  have b := FunD.bindsA (ps := ["_law_script"]) F fun _ _ _ _ _ _ us hl => match us, hl with | [_], _ => rfl
  exact ⟨fd, fun s v => b s [v] rfl, fun base _ _ => law_ok T wh F⟩
end MF
open PySem PySem.W PySem.Calls PyProof.Rows
theorem holds_of (wh : ∀ c es, MF.CsOk c → MF.EsOk c es → MF.WhOk c es) : PySem.Challenge.rw_marktruly_k51_whole_every_marking_witnes.Holds := by
  w_on; o_law
  refine HandSHeadRun.head_any (r := OpenLaw.row PySem.Challenge.rw_marktruly_k51_whole_every_marking_witnes) (q := MT.qv) (H := MT.hk) (ob := MT.ob) (M := 6000) (loose := MT.loose) (d := HandSHeadRun.topDef (OpenLaw.row PySem.Challenge.rw_marktruly_k51_whole_every_marking_witnes).prog 68) (kwd := []) MT.ob_eq
    (by kernel_rfl) (fun s => by kernel_rfl) MT.run (by kernel_rfl) (by kernel_rfl) (by kernel_rfl) (by rfl) (by first | assumption | decide +kernel) (by decide +kernel) ⟨rfl, rfl, rfl, rfl, rfl, by decide +kernel⟩ ?hw ?hc
  case hw => w_witness2
  case hc =>
    refine L2.walk_ofE (l := PySem.Challenge.rw_marktruly_k51_whole_every_marking_witnes) (n := 63) (k := 12) (x := "_law_script") (CX := L2.CX0) rfl (by decide) (by kernel_rfl) ⟨rfl, by decide, by decide⟩ ?F (fun _ _ _ _ z => z)
    intro w mg fa h Y G hmg0
    obtain ⟨K, KX, c⟩ := Y
    have hmg : mg ("law" : PySem.Str) = some (.ref fa) := by
      have e : (HandSHeadRun.topDef (OpenLaw.row PySem.Challenge.rw_marktruly_k51_whole_every_marking_witnes).prog 68).name = ("law" : PySem.Str) := by kernel_rfl
      rw [← e]
      exact hmg0
    obtain ⟨fd, hb, hF⟩ := MF.facts (P := (PySem.Challenge.rw_marktruly_k51_whole_every_marking_witnes).prog) (w := w) KX G hmg c wh
    exact ⟨K, fd, MF.sp_law K, KX, hb, fun H a ns hl hO hS => MF.law_sp hl hO hS, hF⟩
open PySem PySem.W PyProof.Rows
theorem PySem.Challenge.cw_marktruly_k51_whole_every_marking_witnes_holds : PySem.Challenge.rw_marktruly_k51_whole_every_marking_witnes.Holds := by
  exact holds_of fun c es hc h => MF.wh_ok hc h
