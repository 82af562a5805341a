import PyProof.Rows.All
import Wide.All
import OpenK.AllK
import Wide.FinOn
import KE.KStateDown
import Lean
import HandS.ForMost
import HandS.ForExc
import HandS.Defaults
import HandS.Walk
import HandS.IsInst
import HandS.ExcIs
import HandS.SortInts
import HandS.SetFor
import HandS.Style
import HandS.Deep
import HandS.Wide
import HandS.Flow
import HandS.EndBits
import HandS.Head0
import HandS.Head1
import HandS.Head2
import HandS.HeadEnd
import HandS.HeadHook1
import HandS.HeadHook2
import KE.LtSeq
import KE.KSortAsk
import PySem.Challenge.RW_swapfalls_k01_whole_turned
set_option Elab.async false
set_option linter.all false
set_option maxRecDepth 100000
set_option maxHeartbeats 4000000
/-! Rows turned: the mathematics, plain Lean. -/
namespace SF
/-- how many two stand the wrong way round -/
def inv : List Int → Nat
  | [] => 0
  | x :: xs => xs.countP (fun y => decide (y < x)) + inv xs
/-- pairs between two lists that stand the wrong way round -/
def crs : List Int → List Int → Nat
  | [], _ => 0
  | x :: xs, b => b.countP (fun y => decide (y < x)) + crs xs b
theorem crs_perm_r {b c : List Int} (h : b.Perm c) : ∀ a, crs a b = crs a c
  | [] => rfl
  | x :: xs => by simp only [crs, h.countP_eq, crs_perm_r h xs]
theorem crs_nil_r : ∀ a, crs a [] = 0
  | [] => rfl
  | x :: xs => by simp [crs, crs_nil_r xs]
theorem crs_cons_r (y : Int) (b : List Int) : ∀ a, crs a (y :: b) = a.countP (fun x => decide (y < x)) + crs a b
  | [] => rfl
  | x :: xs => by
    simp only [crs, crs_cons_r y b xs, List.countP_cons]
    omega
theorem crs_app_r (a b c : List Int) : crs a (b ++ c) = crs a b + crs a c := by
  induction a with
  | nil => rfl
  | cons x xs ih => simp only [crs, ih, List.countP_append]; omega
theorem inv_app : ∀ a b : List Int, inv (a ++ b) = inv a + inv b + crs a b
  | [], b => by simp [inv, crs]
  | x :: xs, b => by
    simp only [List.cons_append, inv, crs, inv_app xs b, List.countP_append]
    omega
theorem inv_snoc (a : List Int) (x : Int) : inv (a ++ [x]) = inv a + a.countP (fun y => decide (x < y)) := by
  rw [inv_app, crs_cons_r, crs_nil_r]
  simp [inv]

/-- the parts of a list, each up to an end (by p), each turned by one place; acc: the part so far -/
def rotGo (p : Int → Bool) : List Int → List Int → List Int
  | _, [] => []
  | acc, x :: xs => if p x = true then (x :: acc) ++ rotGo p [] xs else rotGo p (acc ++ [x]) xs
/-- the parts of a list, each begins at an end, each turned back by one place -/
def unGo (p : Int → Bool) : List Int → List Int → List Int
  | part, [] => part.drop 1 ++ part.take 1
  | part, y :: ys => if part ≠ [] ∧ p y = true then (part.drop 1 ++ part.take 1) ++ unGo p [y] ys else unGo p (part ++ [y]) ys
def isEnd (one other last : Int) : Bool := decide (one ≤ other) == decide (last ≤ other)
def rot (x : Int) (w : List Int) : List Int := rotGo (fun y => isEnd y x (w.getLast?.getD 0)) [] w
def unrot (x : Int) (w : List Int) : List Int := unGo (fun y => isEnd y x (w.head?.getD 0)) [] w
def turned (w : List Int) : List Int := w.foldl (fun f x => rot x f ++ [x]) []
def backR : Nat → List Int → List Int
  | 0, _ => []
  | n + 1, f => match f.getLast? with
    | none => []
    | some x => x :: backR n (unrot x f.dropLast)
def back (w : List Int) : List Int := (backR w.length w).reverse

/-- what the list ends with is an end (or nothing is left over) -/
def EndsP (p : Int → Bool) (acc xs : List Int) : Prop := (xs = [] → acc = []) ∧ ∀ z, xs.getLast? = some z → p z = true
theorem EndsP.tail {p : Int → Bool} {acc : List Int} {x : Int} {xs : List Int} (h : EndsP p acc (x :: xs)) (hx : p x = true) : EndsP p [] xs := by
  refine ⟨fun _ => rfl, fun z hz => h.2 z ?_⟩
  cases xs with
  | nil => simp at hz
  | cons y ys => rw [List.getLast?_cons_cons]; exact hz
theorem EndsP.step {p : Int → Bool} {acc : List Int} {x : Int} {xs : List Int} (h : EndsP p acc (x :: xs)) (hx : ¬ p x = true) : EndsP p (acc ++ [x]) xs := by
  cases xs with
  | nil => exact absurd (h.2 x (by simp)) hx
  | cons y ys =>
    refine ⟨fun e => by simp at e, fun z hz => h.2 z ?_⟩
    rw [List.getLast?_cons_cons]; exact hz
theorem rotGo_perm (p : Int → Bool) : ∀ (xs acc : List Int), EndsP p acc xs → (rotGo p acc xs).Perm (acc ++ xs)
  | [], acc, h => by rw [h.1 rfl]; exact .nil
  | x :: xs, acc, h => by
    unfold rotGo
    split
    · rename_i hx
      have ih := rotGo_perm p xs [] (h.tail hx)
      refine List.Perm.trans ?_ (List.perm_middle (a := x) (l₁ := acc) (l₂ := xs)).symm
      exact .cons x (List.Perm.append_left acc ih)
    · rename_i hx
      have ih := rotGo_perm p xs (acc ++ [x]) (h.step hx)
      rw [List.append_assoc] at ih
      exact ih
theorem rotGo_len (p : Int → Bool) {xs acc : List Int} (h : EndsP p acc xs) : (rotGo p acc xs).length = acc.length + xs.length := by
  rw [(rotGo_perm p xs acc h).length_eq, List.length_append]
/-- the last one is not greater: the swaps lose what is greater -/
theorem rotGo_low (x : Int) (p : Int → Bool) (hp : ∀ y, p y = decide (y ≤ x)) : ∀ (xs acc : List Int), EndsP p acc xs → (∀ a ∈ acc, x < a) →
    inv (rotGo p acc xs) + (acc ++ xs).countP (fun y => decide (x < y)) = inv (acc ++ xs)
  | [], acc, h, _ => by rw [h.1 rfl]; rfl
  | y :: ys, acc, h, ha => by
    unfold rotGo
    split
    · rename_i hy
      have ih := rotGo_low x p hp ys [] (h.tail hy) (by simp)
      have pm := rotGo_perm p ys [] (h.tail hy)
      simp only [List.nil_append] at ih pm
      have hyx : y ≤ x := by rw [hp] at hy; simpa using hy
      have c0 : acc.countP (fun z => decide (z < y)) = 0 := by
        rw [List.countP_eq_zero]; intro a q; have := ha a q; simp; omega
      have c1 : acc.countP (fun z => decide (y < z)) = acc.length := by
        rw [List.countP_eq_length]; intro a q; have := ha a q; simp; omega
      have c2 : acc.countP (fun z => decide (x < z)) = acc.length := by
        rw [List.countP_eq_length]; intro a q; have := ha a q; simp; omega
      have cy : decide (x < y) = false := by simp; omega
      simp only [List.cons_append, inv, List.countP_append, inv_app, crs_cons_r, crs_perm_r pm, pm.countP_eq, List.countP_cons, c0, c1, c2, cy]
      simp
      omega
    · rename_i hy
      have hyx : x < y := by rw [hp] at hy; simp at hy; omega
      have ih := rotGo_low x p hp ys (acc ++ [y]) (h.step hy) (by
        intro a q
        rcases List.mem_append.mp q with q | q
        · exact ha a q
        · simp at q; omega)
      simp only [List.append_assoc, List.singleton_append] at ih
      exact ih
/-- the last one is greater: the swaps gain what is not -/
theorem rotGo_high (x : Int) (p : Int → Bool) (hp : ∀ y, p y = decide (x < y)) : ∀ (xs acc : List Int), EndsP p acc xs → (∀ a ∈ acc, a ≤ x) →
    inv (rotGo p acc xs) = inv (acc ++ xs) + (acc ++ xs).countP (fun y => decide (y ≤ x))
  | [], acc, h, _ => by rw [h.1 rfl]; rfl
  | y :: ys, acc, h, ha => by
    unfold rotGo
    split
    · rename_i hy
      have ih := rotGo_high x p hp ys [] (h.tail hy) (by simp)
      have pm := rotGo_perm p ys [] (h.tail hy)
      simp only [List.nil_append] at ih pm
      have hyx : x < y := by rw [hp] at hy; simpa using hy
      have c0 : acc.countP (fun z => decide (z < y)) = acc.length := by
        rw [List.countP_eq_length]; intro a q; have := ha a q; simp; omega
      have c1 : acc.countP (fun z => decide (y < z)) = 0 := by
        rw [List.countP_eq_zero]; intro a q; have := ha a q; simp; omega
      have c2 : acc.countP (fun z => decide (z ≤ x)) = acc.length := by
        rw [List.countP_eq_length]; intro a q; have := ha a q; simp; omega
      have cy : decide (y ≤ x) = false := by simp; omega
      simp only [List.cons_append, inv, List.countP_append, inv_app, crs_cons_r, crs_perm_r pm, pm.countP_eq, List.countP_cons, c0, c1, c2, cy]
      simp
      omega
    · rename_i hy
      have hyx : y ≤ x := by rw [hp] at hy; simp at hy; omega
      have ih := rotGo_high x p hp ys (acc ++ [y]) (h.step hy) (by
        intro a q
        rcases List.mem_append.mp q with q | q
        · exact ha a q
        · simp at q; omega)
      simp only [List.append_assoc, List.singleton_append] at ih
      exact ih
theorem ends_rot (x : Int) (w : List Int) : EndsP (fun y => isEnd y x (w.getLast?.getD 0)) [] w := by
  refine ⟨fun _ => rfl, fun z hz => ?_⟩
  simp [hz, isEnd]
theorem rot_perm (x : Int) (w : List Int) : (rot x w).Perm w := by
  have := rotGo_perm _ w [] (ends_rot x w)
  simpa [rot] using this
theorem rot_len (x : Int) (w : List Int) : (rot x w).length = w.length := (rot_perm x w).length_eq
/-- one number more -/
theorem inv_rot (x : Int) (w : List Int) : inv (rot x w ++ [x]) = inv w + (match w.getLast? with | some z => if x < z then w.length else 0 | none => 0) := by
  rw [inv_snoc, (rot_perm x w).countP_eq]
  cases hl : w.getLast? with
  | none =>
    have e : w = [] := by simpa using hl
    subst e; rfl
  | some z =>
    by_cases hz : x < z
    · have h := rotGo_high x (fun y => isEnd y x (w.getLast?.getD 0)) (fun y => by
        rw [hl]; simp only [isEnd, Option.getD_some]
        have : decide (z ≤ x) = false := by simp; omega
        rw [this]
        by_cases q : y ≤ x
        · have : ¬ x < y := by omega
          simp [q, this]
        · have : x < y := by omega
          simp [q, this]) w [] (ends_rot x w) (by simp)
      simp only [List.nil_append] at h
      have c : w.countP (fun y => decide (y ≤ x)) + w.countP (fun y => decide (x < y)) = w.length := by
        rw [List.length_eq_countP_add_countP (p := fun y => decide (y ≤ x))]
        congr 1
        apply List.countP_congr
        intro a _
        simp
      show inv (rotGo _ [] w) + _ = _
      rw [h]
      simp only [hz, if_true]
      omega
    · have h := rotGo_low x (fun y => isEnd y x (w.getLast?.getD 0)) (fun y => by
        rw [hl]; simp only [isEnd, Option.getD_some]
        have : decide (z ≤ x) = true := by simp; omega
        rw [this]
        simp) w [] (ends_rot x w) (by simp)
      simp only [List.nil_append] at h
      show inv (rotGo _ [] w) + _ = _
      rw [h]
      simp only [hz, if_false]
      rfl
/-- the places at which a row falls, from the place k on -/
def fallsFrom (k : Nat) : List Int → List Int
  | a :: b :: r => (if b < a then [(k : Int)] else []) ++ fallsFrom (k + 1) (b :: r)
  | _ => []
def falls (w : List Int) : List Int := fallsFrom 1 w
def maj (w : List Int) : Int := (falls w).sum
theorem fallsFrom_snoc (x : Int) : ∀ (w : List Int) (k : Nat), fallsFrom k (w ++ [x]) = fallsFrom k w ++ (match w.getLast? with | some z => if x < z then [(k + w.length - 1 : Nat) |> Int.ofNat] else [] | none => [])
  | [], k => by simp [fallsFrom]
  | [a], k => by simp [fallsFrom]
  | a :: b :: r, k => by
    have ih := fallsFrom_snoc x (b :: r) (k + 1)
    simp only [List.cons_append] at ih ⊢
    rw [fallsFrom, ih]
    rw [show fallsFrom k (a :: b :: r) = (if b < a then [(k : Int)] else []) ++ fallsFrom (k + 1) (b :: r) from rfl]
    rw [List.getLast?_cons_cons, List.append_assoc]
    congr 2
    have e : k + 1 + (b :: r).length - 1 = k + (a :: b :: r).length - 1 := by simp only [List.length_cons]; omega
    rw [e]
theorem maj_snoc (w : List Int) (x : Int) : maj (w ++ [x]) = maj w + ((match w.getLast? with | some z => if x < z then w.length else 0 | none => 0 : Nat) : Int) := by
  unfold maj falls
  rw [fallsFrom_snoc, List.sum_append]
  cases hl : w.getLast? with
  | none => simp
  | some z =>
    by_cases hz : x < z
    · simp [hz]
    · simp [hz]
theorem turned_snoc (w : List Int) (x : Int) : turned (w ++ [x]) = rot x (turned w) ++ [x] := by
  unfold turned
  rw [List.foldl_append]
  rfl
theorem snoc_ind {P : List Int → Prop} (h0 : P []) (hs : ∀ w x, P w → P (w ++ [x])) (w : List Int) : P w := by
  have : ∀ r : List Int, P r.reverse := by
    intro r
    induction r with
    | nil => exact h0
    | cons a r ih => rw [List.reverse_cons]; exact hs _ _ ih
  have := this w.reverse
  rwa [List.reverse_reverse] at this
theorem turned_perm (w : List Int) : (turned w).Perm w := by
  induction w using snoc_ind with
  | h0 => exact .nil
  | hs w x ih =>
    rw [turned_snoc]
    exact List.Perm.append_right [x] ((rot_perm x (turned w)).trans ih)
theorem turned_len (w : List Int) : (turned w).length = w.length := (turned_perm w).length_eq
theorem turned_last (w : List Int) : (turned w).getLast? = w.getLast? := by
  induction w using snoc_ind with
  | h0 => rfl
  | hs w x ih => rw [turned_snoc]; simp
/-- Foata: as many swaps as the places of the falls come to -/
theorem inv_turned (w : List Int) : (inv (turned w) : Int) = maj w := by
  induction w using snoc_ind with
  | h0 => rfl
  | hs w x ih =>
    rw [turned_snoc, inv_rot, maj_snoc, turned_last, turned_len]
    omega
/-! ### and back -/
theorem unGo_rotGo (p : Int → Bool) : ∀ (xs acc : List Int) (y : Int), EndsP p acc xs → (∀ a ∈ acc, ¬ p a = true) → ∀ (part : List Int), part ≠ [] → unGo p part (rotGo p acc xs) = part.drop 1 ++ part.take 1 ++ (acc ++ xs)
  | [], acc, _, h, _, part, _ => by
    rw [h.1 rfl]
    simp [rotGo, unGo]
  | x :: xs, acc, y, h, ha, part, hp => by
    have key : ∀ (bs cs part : List Int), (∀ b ∈ bs, ¬ p b = true) → part ≠ [] → unGo p part (bs ++ cs) = unGo p (part ++ bs) cs := by
      intro bs
      induction bs with
      | nil => intro cs part _ _; simp
      | cons b bs ih =>
        intro cs part hb hq
        have hbf : p b = false := by have := hb b (by simp); simpa using this
        simp only [List.cons_append, unGo, hbf]
        simp only [Bool.false_eq_true, and_false, if_false]
        rw [ih cs (part ++ [b]) (fun z hz => hb z (by simp [hz])) (by simp)]
        simp
    unfold rotGo
    split
    · rename_i hx
      have ih := unGo_rotGo p xs [] y (h.tail hx) (by simp) (x :: acc) (by simp)
      simp only [List.cons_append]
      rw [unGo]
      simp only [hx, hp, ne_eq, not_false_eq_true, and_self, if_true]
      rw [key acc _ [x] ha (by simp)]
      simp only [List.singleton_append]
      rw [ih]
      simp
    · rename_i hx
      have ih := unGo_rotGo p xs (acc ++ [x]) y (h.step hx) (by
        intro a q
        rcases List.mem_append.mp q with q | q
        · exact ha a q
        · simp at q; subst q; exact hx) part hp
      rw [ih]
      simp
/-- the first of the turned parts is an end -/
theorem rotGo_head (p : Int → Bool) : ∀ (xs acc : List Int), EndsP p acc xs → ∀ z, (rotGo p acc xs).head? = some z → p z = true
  | [], acc, h, z, hz => by simp [rotGo] at hz
  | x :: xs, acc, h, z, hz => by
    unfold rotGo at hz
    split at hz
    · rename_i hx; simp at hz; subst hz; exact hx
    · rename_i hx; exact rotGo_head p xs _ (h.step hx) z hz
theorem unGo_start (p : Int → Bool) (z : Int) (r : List Int) : unGo p [] (z :: r) = unGo p [z] r := by
  simp [unGo]
theorem unGo_rot0 (p : Int → Bool) (w : List Int) (h : EndsP p [] w) : unGo p [] (rotGo p [] w) = w := by
  -- a part of its own ahead changes nothing
  have h2 : ∀ (xs acc : List Int), EndsP p acc xs → (∀ a ∈ acc, ¬ p a = true) → unGo p [] (rotGo p acc xs) = acc ++ xs := by
    intro xs
    induction xs with
    | nil => intro acc h _; rw [h.1 rfl]; rfl
    | cons x xs ih =>
      intro acc h ha
      unfold rotGo
      split
      · rename_i hx
        simp only [List.cons_append, unGo_start]
        have key : ∀ (bs cs part : List Int), (∀ b ∈ bs, ¬ p b = true) → part ≠ [] → unGo p part (bs ++ cs) = unGo p (part ++ bs) cs := by
          intro bs
          induction bs with
          | nil => intro cs part _ _; simp
          | cons b bs ih =>
            intro cs part hb hq
            have hbf : p b = false := by have := hb b (by simp); simpa using this
            simp only [List.cons_append, unGo, hbf]
            simp only [Bool.false_eq_true, and_false, if_false]
            rw [ih cs (part ++ [b]) (fun z hz => hb z (by simp [hz])) (by simp)]
            simp
        rw [key acc _ [x] ha (by simp), unGo_rotGo p xs [] 0 (h.tail hx) (by simp) _ (by simp)]
        simp
      · rename_i hx
        rw [ih (acc ++ [x]) (h.step hx) (by
          intro a q
          rcases List.mem_append.mp q with q | q
          · exact ha a q
          · simp at q; subst q; exact hx)]
        simp
  have := h2 w [] h (by simp)
  simpa using this
theorem isEnd_swap {x a b : Int} (h : isEnd a x b = true) : (fun y => isEnd y x a) = (fun y => isEnd y x b) := by
  funext y
  unfold isEnd at h ⊢
  have : decide (a ≤ x) = decide (b ≤ x) := by simpa using h
  rw [this]
theorem unrot_rot (x : Int) (w : List Int) : unrot x (rot x w) = w := by
  cases hw : (rot x w).head? with
  | none =>
    have e : rot x w = [] := by simpa using hw
    have e2 := rot_len x w
    rw [e] at e2
    have : w = [] := List.eq_nil_of_length_eq_zero e2.symm
    subst this
    rw [e]; rfl
  | some z =>
    have hz := rotGo_head _ w [] (ends_rot x w) z hw
    have e := isEnd_swap hz
    unfold unrot
    rw [hw]
    simp only [Option.getD_some]
    rw [e]
    exact unGo_rot0 _ w (ends_rot x w)
/-- the other way: parts that begin with an end, turned back, end with an end -/
theorem rotGo_unGo (p : Int → Bool) : ∀ (ys bs : List Int) (b : Int), p b = true → (∀ a ∈ bs, ¬ p a = true) → rotGo p [] (unGo p (b :: bs) ys) = b :: bs ++ ys
  | [], bs, b, hb, ha => by
    have key : ∀ (cs acc : List Int), (∀ a ∈ cs, ¬ p a = true) → rotGo p acc (cs ++ [b]) = b :: (acc ++ cs) := by
      intro cs
      induction cs with
      | nil => intro acc _; simp [rotGo, hb]
      | cons c cs ih =>
        intro acc h
        have hc : ¬ p c = true := h c (by simp)
        simp only [List.cons_append, rotGo, hc, if_false]
        rw [ih (acc ++ [c]) (fun a q => h a (by simp [q]))]
        simp
    simp only [unGo, List.drop_succ_cons, List.drop_zero, List.take_succ_cons, List.take_zero]
    rw [key bs [] ha]
    simp
  | y :: ys, bs, b, hb, ha => by
    have key : ∀ (cs acc ds : List Int), (∀ a ∈ cs, ¬ p a = true) → rotGo p acc (cs ++ [b] ++ ds) = b :: (acc ++ cs) ++ rotGo p [] ds := by
      intro cs
      induction cs with
      | nil => intro acc ds _; simp [rotGo, hb]
      | cons c cs ih =>
        intro acc ds h
        have hc : ¬ p c = true := h c (by simp)
        simp only [List.cons_append, rotGo, hc, if_false]
        have := ih (acc ++ [c]) ds (fun a q => h a (by simp [q]))
        simp only [List.append_assoc, List.singleton_append, List.cons_append] at this ⊢
        exact this
    unfold unGo
    by_cases hy : p y = true
    · simp only [hy, ne_eq, reduceCtorEq, not_false_eq_true, and_self, if_true]
      simp only [List.drop_succ_cons, List.drop_zero, List.take_succ_cons, List.take_zero]
      rw [key bs [] _ ha, rotGo_unGo p ys [] y hy (by simp)]
      simp
    · rw [if_neg (fun q => hy q.2), List.cons_append, rotGo_unGo p ys (bs ++ [y]) b hb (by
        intro a q
        rcases List.mem_append.mp q with q | q
        · exact ha a q
        · simp at q; subst q; exact hy)]
      simp
theorem unGo_last (p : Int → Bool) : ∀ (ys bs : List Int) (b : Int), p b = true → ∀ z, (unGo p (b :: bs) ys).getLast? = some z → p z = true
  | [], bs, b, hb, z, hz => by simp [unGo] at hz; subst hz; exact hb
  | y :: ys, bs, b, hb, z, hz => by
    unfold unGo at hz
    split at hz
    · rename_i hy
      have ne : unGo p [y] ys ≠ [] := by
        intro e
        have q := rotGo_unGo p ys [] y hy.2 (by simp)
        rw [e] at q
        simp [rotGo] at q
      rw [List.getLast?_append] at hz
      cases q : (unGo p [y] ys).getLast? with
      | none => exact absurd (by simpa using q) ne
      | some u =>
        rw [q] at hz
        simp at hz
        subst hz
        exact unGo_last p ys [] y hy.2 u q
    · rw [List.cons_append] at hz
      exact unGo_last p ys (bs ++ [y]) b hb z hz
theorem rot_unrot (x : Int) (w : List Int) : rot x (unrot x w) = w := by
  cases w with
  | nil => rfl
  | cons b r =>
    have hb : (fun y => isEnd y x b) b = true := by simp [isEnd]
    unfold unrot
    simp only [List.head?_cons, Option.getD_some, unGo_start]
    have e := rotGo_unGo (fun y => isEnd y x b) r [] b hb (by simp)
    unfold rot
    cases hl : (unGo (fun y => isEnd y x b) [b] r).getLast? with
    | none =>
      have q : unGo (fun y => isEnd y x b) [b] r = [] := by simpa using hl
      rw [q] at e
      simp [rotGo] at e
    | some z =>
      have hz := unGo_last (fun y => isEnd y x b) r [] b hb z hl
      simp only [Option.getD_some]
      rw [isEnd_swap hz]
      exact e
theorem unrot_perm (x : Int) (w : List Int) : (unrot x w).Perm w := by
  have := rot_perm x (unrot x w)
  rw [rot_unrot] at this
  exact this.symm
theorem unrot_len (x : Int) (w : List Int) : (unrot x w).length = w.length := (unrot_perm x w).length_eq
theorem back_snoc (w : List Int) (x : Int) : back (w ++ [x]) = back (unrot x w) ++ [x] := by
  unfold back
  rw [List.length_append, List.length_singleton]
  have e : backR (w.length + 1) (w ++ [x]) = x :: backR w.length (unrot x w) := by
    simp [backR]
  rw [e, unrot_len, List.reverse_cons]
theorem back_nil : back [] = [] := rfl
theorem len_ind {P : List Int → Prop} (h0 : P []) (hs : ∀ w x, (∀ v, v.length = w.length → P v) → P (w ++ [x])) (w : List Int) : P w := by
  have : ∀ n, ∀ v : List Int, v.length = n → P v := by
    intro n
    induction n with
    | zero => intro v hv; rw [List.eq_nil_of_length_eq_zero hv]; exact h0
    | succ n ih =>
      intro v hv
      have ne : v ≠ [] := by intro e; subst e; simp at hv
      rw [← List.dropLast_concat_getLast ne]
      refine hs _ _ fun u hu => ih u ?_
      rw [hu, List.length_dropLast, hv]; rfl
  exact this _ w rfl
theorem back_turned (w : List Int) : back (turned w) = w := by
  induction w using snoc_ind with
  | h0 => rfl
  | hs w x ih => rw [turned_snoc, back_snoc, unrot_rot, ih]
theorem turned_back (w : List Int) : turned (back w) = w := by
  induction w using len_ind with
  | h0 => rfl
  | hs w x ih => rw [back_snoc, turned_snoc, ih _ (unrot_len x w), rot_unrot]
theorem back_perm (w : List Int) : (back w).Perm w := by
  have := turned_perm (back w)
  rw [turned_back] at this
  exact this.symm
theorem maj_back (w : List Int) : maj (back w) = inv w := by
  rw [← inv_turned, turned_back]
theorem turned_inj {v w : List Int} (h : turned v = turned w) : v = w := by
  rw [← back_turned v, h, back_turned]
/-- for each place how many greater ones stand ahead -/
def swAt (w : List Int) (i : Nat) (z : Int) : Nat := ((w.take i).filter fun o => decide (z < o)).length
def swCol (w : List Int) : List Int := (List.range w.length).map fun i => (swAt w i (w.getD i 0) : Int)
theorem sum_map_range_succ (f : Nat → Int) (n : Nat) : ((List.range (n + 1)).map f).sum = ((List.range n).map f).sum + f n := by
  rw [List.range_succ, List.map_append, List.sum_append]
  simp
theorem swCol_sum (w : List Int) : (swCol w).sum = inv w := by
  induction w using snoc_ind with
  | h0 => rfl
  | hs w x ih =>
    unfold swCol
    rw [List.length_append, List.length_singleton, sum_map_range_succ, inv_snoc]
    have e : ((List.range w.length).map fun i => (swAt (w ++ [x]) i ((w ++ [x]).getD i 0) : Int)) = swCol w := by
      unfold swCol
      apply List.map_congr_left
      intro i hi
      have hi : i < w.length := by simpa using hi
      unfold swAt
      rw [List.take_append_of_le_length (by omega)]
      have e : (w ++ [x]).getD i 0 = w.getD i 0 := by simp [List.getElem?_append_left hi]
      rw [e]
    rw [e, ih]
    have e2 : swAt (w ++ [x]) w.length ((w ++ [x]).getD w.length 0) = w.countP (fun y => decide (x < y)) := by
      unfold swAt
      simp [List.countP_eq_length_filter]
    rw [e2]
    omega
/-- the places at which a row falls, by their places -/
def fallsC (w : List Int) : List Int := ((List.range (w.length - 1)).filter fun i => decide (w.getD (i + 1) 0 < w.getD i 0)).map fun (i : Nat) => ((i : Int) + 1)
theorem fallsFrom_eq : ∀ (w : List Int) (k : Nat), fallsFrom k w = ((List.range (w.length - 1)).filter fun i => decide (w.getD (i + 1) 0 < w.getD i 0)).map fun (i : Nat) => ((i : Int) + k)
  | [], k => rfl
  | [a], k => rfl
  | a :: b :: r, k => by
    rw [fallsFrom, fallsFrom_eq (b :: r) (k + 1)]
    have e : (a :: b :: r).length - 1 = ((b :: r).length - 1) + 1 := by simp
    rw [e, List.range_succ_eq_map, List.filter_cons, List.filter_map]
    simp only [List.getD_cons_zero, List.getD_cons_succ, Function.comp_def]
    by_cases h : b < a
    · simp only [h, decide_true, if_true, List.map_cons, List.map_map, Function.comp_def, List.singleton_append]
      congr 1
      · simp
      · apply List.map_congr_left
        intro i _
        omega
    · simp only [h, decide_false, Bool.false_eq_true, if_false, List.map_map, Function.comp_def, List.nil_append]
      apply List.map_congr_left
      intro i _
      omega
theorem falls_eq (w : List Int) : falls w = fallsC w := by
  unfold falls fallsC
  rw [fallsFrom_eq]
  rfl
end SF

/-! SX: what a reading evaluates to, by data of any depth; promises by data. -/
namespace SX
open PySem PySem.Spec PyProof.Rows L2

/-- data -/
inductive Da where
  | non | bl (b : Bool) | int (i : Int) | str (x : Str) | lst (xs : List Da) | tup (xs : List Da) | edic | raw (v : V) | sc (K : PySem.W.Frag) (ns : List Int)
abbrev dI (ns : List Int) : Da := .lst (ns.map .int)
mutual
inductive Dq (H : Hp) : V → Da → Prop
  | non : Dq H .non .non
  | bl (b : Bool) : Dq H (.bl b) (.bl b)
  | int (i : Int) : Dq H (.int i) (.int i)
  | str (x : Str) : Dq H (.str x) (.str x)
  | lst {a : Addr} {xs : List V} {ds : List Da} : Rd H a (.lst xs) → DqAll H xs ds → Dq H (.ref a) (.lst ds)
  | tup {a : Addr} {xs : List V} {ds : List Da} : Rd H a (.tup xs) → DqAll H xs ds → Dq H (.ref a) (.tup ds)
  | edic {a : Addr} : H a = some (.dK []) → Dq H (.ref a) .edic
  | raw (v : V) : Dq H v (.raw v)
  | sc {K : PySem.W.Frag} {a : Addr} {ns : List Int} : SqL K H a (ns.map V.int) → Dq H (.ref a) (.sc K ns)
inductive DqAll (H : Hp) : List V → List Da → Prop
  | nil : DqAll H [] []
  | cons {v : V} {vs : List V} {d : Da} {ds : List Da} : Dq H v d → DqAll H vs ds → DqAll H (v :: vs) (d :: ds)
end
theorem rd_mono {H H' : Hp} {a : Addr} {u : HO} (e : Same H H') (h : Rd H a u) : Rd H' a u := by
  rcases h with h | ⟨o, h⟩
  · exact .inl (e a _ h)
  · exact .inr ⟨o, e a _ h⟩
mutual
theorem Dq.mono {H H' : Hp} (e : Same H H') : ∀ {v : V} (d : Da), Dq H v d → Dq H' v d
  | _, .non, h => by cases h; exact .non
  | _, .bl b, h => by cases h; exact .bl b
  | _, .int b, h => by cases h; exact .int b
  | _, .str b, h => by cases h; exact .str b
  | _, .lst ds, h => by
    cases h with
    | lst r a => exact .lst (rd_mono e r) (DqAll.mono e ds a)
  | _, .tup ds, h => by
    cases h with
    | tup r a => exact .tup (rd_mono e r) (DqAll.mono e ds a)
  | _, .edic, h => by
    cases h with
    | edic r => exact .edic (e _ _ r)
  | _, .raw v, h => by
    cases h with
    | raw v => exact .raw _
  | _, .sc K ns, h => by
    cases h with
    | sc r => exact .sc (e.seq r)
theorem DqAll.mono {H H' : Hp} (e : Same H H') : ∀ {vs : List V} (ds : List Da), DqAll H vs ds → DqAll H' vs ds
  | _, [], h => by cases h; exact .nil
  | _, d :: ds, h => by
    cases h with
    | cons h1 h2 => exact .cons (Dq.mono e d h1) (DqAll.mono e ds h2)
end
theorem Dq.up {H H' : Hp} {v : V} {d : Da} (h : Dq H v d) (e : Same H H') : Dq H' v d := Dq.mono e d h
theorem DqAll.up {H H' : Hp} {v : List V} {d : List Da} (h : DqAll H v d) (e : Same H H') : DqAll H' v d := DqAll.mono e d h
section
variable {H H' : Hp} {v : V} {vs ws : List V} {ds es : List Da}
theorem DqAll.length (h : DqAll H vs ds) : vs.length = ds.length := by
  induction ds generalizing vs with
  | nil => cases h; rfl
  | cons d ds ih =>
    cases h with
    | cons _ h2 => rw [List.length_cons, List.length_cons, ih h2]
theorem DqAll.append (h : DqAll H vs ds) (k : DqAll H ws es) : DqAll H (vs ++ ws) (ds ++ es) := by
  induction ds generalizing vs with
  | nil => cases h; exact k
  | cons d ds ih =>
    cases h with
    | cons h1 h2 => exact .cons h1 (ih h2)
theorem DqAll.get {i : Nat} {d : Da} (h : DqAll H vs ds) (e : ds[i]? = some d) : ∃ v, vs[i]? = some v ∧ Dq H v d := by
  induction ds generalizing vs i with
  | nil => simp at e
  | cons d0 ds ih =>
    cases h with
    | cons h1 h2 =>
      cases i with
      | zero => simp at e; subst e; exact ⟨_, rfl, h1⟩
      | succ i => exact ih (i := i) h2 (by simpa using e)
theorem DqAll.get' {i : Nat} {v : V} (h : DqAll H vs ds) (e : vs[i]? = some v) : ∃ d, ds[i]? = some d ∧ Dq H v d := by
  induction ds generalizing vs i with
  | nil => cases h; simp at e
  | cons d0 ds ih =>
    cases h with
    | cons h1 h2 =>
      cases i with
      | zero => simp at e; subst e; exact ⟨_, rfl, h1⟩
      | succ i => exact ih (i := i) h2 (by simpa using e)
theorem DqAll.take (h : DqAll H vs ds) (n : Nat) : DqAll H (vs.take n) (ds.take n) := by
  induction ds generalizing vs n with
  | nil => cases h; simp; exact .nil
  | cons d ds ih =>
    cases h with
    | cons h1 h2 =>
      cases n with
      | zero => simp; exact .nil
      | succ n => exact .cons h1 (ih h2 n)
theorem DqAll.drop (h : DqAll H vs ds) (n : Nat) : DqAll H (vs.drop n) (ds.drop n) := by
  induction ds generalizing vs n with
  | nil => cases h; simp; exact .nil
  | cons d ds ih =>
    cases h with
    | cons h1 h2 =>
      cases n with
      | zero => exact .cons h1 h2
      | succ n => exact ih h2 n
theorem DqAll.set {d : Da} (h : DqAll H vs ds) (n : Nat) (k : Dq H v d) : DqAll H (vs.set n v) (ds.set n d) := by
  induction ds generalizing vs n with
  | nil => cases h; exact .nil
  | cons d ds ih =>
    cases h with
    | cons h1 h2 =>
      cases n with
      | zero => exact .cons k h2
      | succ n => exact .cons h1 (ih h2 n)
theorem DqAll.rev (h : DqAll H vs ds) : DqAll H vs.reverse ds.reverse := by
  induction ds generalizing vs with
  | nil => cases h; exact .nil
  | cons d ds ih =>
    cases h with
    | cons h1 h2 => rw [List.reverse_cons, List.reverse_cons]; exact (ih h2).append (.cons h1 .nil)
theorem dq_ints (ns : List Int) : DqAll H (ns.map V.int) (ns.map Da.int) := by
  induction ns with
  | nil => exact .nil
  | cons n ns ih => exact .cons (.int n) ih
theorem ints_dq {ns : List Int} (h : DqAll H vs (ns.map Da.int)) : vs = ns.map V.int := by
  induction ns generalizing vs with
  | nil => cases h; rfl
  | cons n ns ih =>
    cases h with
    | cons h1 h2 => cases h1; rw [ih h2]; rfl
theorem dq_bls (ns : List Bool) : DqAll H (ns.map V.bl) (ns.map Da.bl) := by
  induction ns with
  | nil => exact .nil
  | cons n ns ih => exact .cons (.bl n) ih
theorem bls_dq {ns : List Bool} (h : DqAll H vs (ns.map Da.bl)) : vs = ns.map V.bl := by
  induction ns generalizing vs with
  | nil => cases h; rfl
  | cons n ns ih =>
    cases h with
    | cons h1 h2 => cases h1; rw [ih h2]; rfl
theorem Dq.ints {a : Addr} {ns : List Int} (h : Rd H a (.lst (ns.map V.int))) : Dq H (.ref a) (dI ns) := .lst h (dq_ints ns)
theorem Dq.at {a : Addr} {ns : List Int} (h : H a = some (.lst (ns.map V.int))) : Dq H (.ref a) (SX.dI ns) := .ints (.inl h)
theorem Dq.of_ints {ns : List Int} (h : Dq H v (SX.dI ns)) : ∃ a, v = .ref a ∧ Rd H a (.lst (ns.map V.int)) := by
  cases h with
  | lst r a => rw [ints_dq a] at r; exact ⟨_, rfl, r⟩
theorem Dq.of_int {i : Int} (h : Dq H v (.int i)) : v = .int i := by cases h; rfl
theorem Dq.of_bl {i : Bool} (h : Dq H v (.bl i)) : v = .bl i := by cases h; rfl
theorem Dq.of_lst (h : Dq H v (.lst ds)) : ∃ a xs, v = .ref a ∧ Rd H a (.lst xs) ∧ DqAll H xs ds := by
  cases h with
  | lst r a => exact ⟨_, _, rfl, r, a⟩
theorem Dq.of_tup (h : Dq H v (.tup ds)) : ∃ a xs, v = .ref a ∧ Rd H a (.tup xs) ∧ DqAll H xs ds := by
  cases h with
  | tup r a => exact ⟨_, _, rfl, r, a⟩
end

/-! ### heaps -/
theorem same_new {H : Hp} {p : Addr} {o : HO} (h : H p = none) : Same H (upd H p o) := fun b x e => by
  rw [upd_ne (ne_of_none e h)]
  exact e
theorem same_mut {H H' : Hp} {p : Addr} {o : HO} (e : Same H H') (h : H p = none) : Same H (upd H' p o) := fun b x q => by
  rw [upd_ne (ne_of_none q h)]
  exact e b x q

/-! ### what evaluates to what -/
/-- H: what stands still and is read; H1: the heap ahead, H2 behind; Hs: H and what is new and stands still from here on -/
structure Ext (H H1 H2 Hs : Hp) : Prop where
  run : Same H1 H2
  grow : Same H Hs
  sub : Same Hs H2
  new : ∀ p o, Hs p = some o → H p = some o ∨ H1 p = none
section
variable {H H1 H2 H3 Hs Hs' : Hp} {p : Addr} {o : HO}
theorem Ext.refl (e : Same H H1) : Ext H H1 H1 H := ⟨Same.refl _, Same.refl _, e, fun _ _ q => .inl q⟩
theorem Ext.trans (a : Ext H H1 H2 Hs) (b : Ext Hs H2 H3 Hs') : Ext H H1 H3 Hs' := ⟨a.run.trans b.run, a.grow.trans b.grow, b.sub, fun p o q => by
  rcases b.new p o q with h | h
  · exact a.new p o h
  · exact .inr (a.run.free h)⟩
theorem Ext.step (a : Ext H H1 H2 Hs) (e : Same H2 H3) : Ext H H1 H3 Hs := ⟨a.run.trans e, a.grow, a.sub.trans e, a.new⟩
theorem Ext.alloc (a : Ext H H1 H2 Hs) (hp : H2 p = none) : Ext H H1 (upd H2 p o) Hs := a.step (same_new hp)
theorem Ext.put (a : Ext H H1 H2 Hs) (hp : H2 p = none) : Ext H H1 (upd H2 p o) (upd Hs p o) := by
  have hs : Hs p = none := a.sub.free hp
  refine ⟨a.run.trans (same_new hp), a.grow.trans (same_new hs), fun b x q => ?_, fun b x q => ?_⟩
  · by_cases e : b = p
    · subst e; rw [upd_same] at q ⊢; exact q
    · rw [upd_ne e] at q ⊢; exact a.sub b x q
  · by_cases e : b = p
    · subst e; exact .inr (a.run.free hp)
    · rw [upd_ne e] at q; exact a.new b x q
/-- the list at p, new, stands still from here on -/
theorem Ext.froz (a : Ext H H1 H2 Hs) (np : H1 p = none) (hs : Hs p = none) (hp : H2 p = some o) : Ext H H1 H2 (upd Hs p o) := by
  refine ⟨a.run, a.grow.trans (same_new hs), fun b x q => ?_, fun b x q => ?_⟩
  · by_cases e : b = p
    · subst e; rw [upd_same] at q; rw [hp]; exact q
    · rw [upd_ne e] at q; exact a.sub b x q
  · by_cases e : b = p
    · subst e; exact .inr np
    · rw [upd_ne e] at q; exact a.new b x q
/-- over more that stands still -/
theorem Ext.join {G : Hp} (a : Ext H H1 H2 Hs) (e : Same H G) (g : Same G H1) : ∃ Gs, Ext G H1 H2 Gs ∧ Same Hs Gs ∧ ∀ p, G p = none → Hs p = none → Gs p = none := by
  refine ⟨fun p => match G p with | some o => some o | none => Hs p, ⟨a.run, fun p o q => ?_, fun p o q => ?_, fun p o q => ?_⟩, fun p o q => ?_, fun p q r => ?_⟩
  · simp only [q]
  · cases h : G p with
    | some u => simp only [h] at q; cases q; exact a.run p _ (g p _ h)
    | none => simp only [h] at q; exact a.sub p o q
  · cases h : G p with
    | some u => simp only [h] at q; cases q; exact .inl rfl
    | none =>
      simp only [h] at q
      rcases a.new p o q with z | z
      · rw [e p o z] at h; cases h
      · exact .inr z
  · cases h : G p with
    | some u =>
      have h1 : H2 p = some u := a.run p _ (g p _ h)
      have h2 : H2 p = some o := a.sub p o q
      rw [h1] at h2
      simp only [h]; exact h2
    | none => simp only [h]; exact q
  · simp only [q, r]
end
def Ev (te : TE) (σ : L2.St) (H : Hp) (d : Da) : Prop := ∀ H1, Same H H1 → ∀ Q : VK, (∀ v H2 Hs, Ext H H1 H2 Hs → Dq Hs v d → Q v H2) → te σ H1 Q
/-- a new list -/
def EvF (te : TE) (σ : L2.St) (H : Hp) (ds : List Da) : Prop := ∀ H1, Same H H1 → ∀ Q : VK, (∀ p vs H2 Hs, H1 p = none → Hs p = none → H2 p = some (.lst vs) → Ext H H1 H2 Hs → DqAll Hs vs ds → Q (.ref p) H2) → te σ H1 Q
def EvT (tt : TT) (σ : L2.St) (H : Hp) (b : Bool) : Prop := ∀ H1, Same H H1 → ∀ Q : Bool → Hp → Prop, (∀ H2, Same H1 H2 → Q b H2) → tt σ H1 Q
def EvA (ta : TA) (σ : L2.St) (H : Hp) (ds : List Da) : Prop := ∀ H1, Same H H1 → ∀ Q : List V → Hp → Prop, (∀ vs H2 Hs, Ext H H1 H2 Hs → DqAll Hs vs ds → Q vs H2) → ta σ H1 Q
def EvO (to : TO) (σ : L2.St) (H : Hp) (o : Option Int) : Prop := ∀ H1, Same H H1 → ∀ Q : Option Int → Hp → Prop, (∀ H2, Same H1 H2 → Q o H2) → to σ H1 Q
section
variable {K : PySem.W.Frag} {σ : L2.St} {H H' : Hp} {ta tb te tx : TE} {t u : TT} {v : V} {d e : Da} {ds es : List Da} {aa : TA} {i j : Int} {a b : Bool}
theorem Ev.up (h : Ev te σ H d) (e : Same H H') : Ev te σ H' d := fun H1 a Q q => h H1 (e.trans a) Q fun v H2 Hs x hv => by
  obtain ⟨Gs, y, z, _⟩ := x.join e a
  exact q v H2 Gs y (hv.up z)
theorem EvA.up (h : EvA aa σ H ds) (e : Same H H') : EvA aa σ H' ds := fun H1 a Q q => h H1 (e.trans a) Q fun v H2 Hs x hv => by
  obtain ⟨Gs, y, z, _⟩ := x.join e a
  exact q v H2 Gs y (hv.up z)
theorem EvT.up (h : EvT t σ H b) (e : Same H H') : EvT t σ H' b := fun H1 a Q q => h H1 (e.trans a) Q q
theorem EvO.up {to : TO} {o : Option Int} (h : EvO to σ H o) (e : Same H H') : EvO to σ H' o := fun H1 a Q q => h H1 (e.trans a) Q q
theorem EvF.up (h : EvF te σ H ds) (e : Same H H') : EvF te σ H' ds := fun H1 a Q q => h H1 (e.trans a) Q fun p vs H2 Hs n1 n2 hp x hv => by
  obtain ⟨Gs, y, z, w⟩ := x.join e a
  exact q p vs H2 Gs n1 (w p (a.free n1) n2) hp y (hv.up z)
theorem Ev.is (h : Ev te σ H d) (q : d = e) : Ev te σ H e := q ▸ h
theorem EvF.is (h : EvF te σ H ds) (q : ds = es) : EvF te σ H es := q ▸ h
theorem EvT.is (h : EvT t σ H a) (q : a = b) : EvT t σ H b := q ▸ h
theorem EvF.ev (h : EvF te σ H ds) : Ev te σ H (.lst ds) := fun H1 a Q q => h H1 a Q fun p vs H2 Hs n1 n2 hp x hd => q _ H2 (upd Hs p (.lst vs)) (x.froz n1 n2 hp) (.lst (.inl upd_same) (hd.up (same_new n2)))
theorem e_var {i : Nat} (h : σ[i]? = some (some v)) (hd : Dq H v d) : Ev (tVar i) σ H d := fun H1 e Q q => ⟨v, h, q v H1 H (.refl e) hd⟩
theorem e_c (hd : ∀ H, Dq H v d) : Ev (tC v) σ H d := fun H1 e Q q => q v H1 H (.refl e) (hd H)
theorem e_cI {z : Int} : Ev (tC (.int z)) σ H (.int z) := e_c fun _ => .int z
theorem e_cB {z : Bool} : Ev (tC (.bl z)) σ H (.bl z) := e_c fun _ => .bl z
theorem e_cS {z : Str} : Ev (tC (.str z)) σ H (.str z) := e_c fun _ => .str z
theorem e_cN : Ev (tC .non) σ H .non := e_c fun _ => .non
theorem e_cT {z : String} : Ev (tC (.ty z)) σ H (.raw (.ty z)) := e_c fun _ => .raw _
theorem e_cR {z : Addr} : Ev (tC (.ref z)) σ H (.raw (.ref z)) := e_c fun _ => .raw _
/-- two parts, one behind the other -/
theorem two {Q : VK} {r : R2} {H1 : Hp} (ha : Ev ta σ H d) (hb : Ev tb σ H e) (s : Same H H1) (k : ∀ v w H3 Hs, Ext H H1 H3 Hs → Dq Hs v d → Dq Hs w e → r v w H3 Q) : tOp r ta tb σ H1 Q :=
  ha H1 s _ fun v H2 Hs x hv => (hb.up x.grow) H2 x.sub _ fun w H3 Hs' y hw => k v w H3 Hs' (x.trans y) (hv.up y.grow) hw
theorem e_II {f : Int → Int → Int} (ha : Ev ta σ H (.int i)) (hb : Ev tb σ H (.int j)) : Ev (tOp (rI0 fun i j => .int (f i j)) ta tb) σ H (.int (f i j)) := fun H1 e Q q =>
  two ha hb e fun v w H3 Hs x hv hw => ⟨i, j, hv.of_int, hw.of_int, q _ H3 Hs x (.int _)⟩
theorem e_IB {f : Int → Int → Bool} (ha : Ev ta σ H (.int i)) (hb : Ev tb σ H (.int j)) : Ev (tOp (rI0 fun i j => .bl (f i j)) ta tb) σ H (.bl (f i j)) := fun H1 e Q q =>
  two ha hb e fun v w H3 Hs x hv hw => ⟨i, j, hv.of_int, hw.of_int, q _ H3 Hs x (.bl _)⟩
theorem e_IC {C : Int → Int → Prop} {f : Int → Int → Int} (ha : Ev ta σ H (.int i)) (hb : Ev tb σ H (.int j)) (hc : C i j) : Ev (tOp (rI C fun i j => .int (f i j)) ta tb) σ H (.int (f i j)) := fun H1 e Q q =>
  two ha hb e fun v w H3 Hs x hv hw => ⟨i, j, hv.of_int, hw.of_int, hc, q _ H3 Hs x (.int _)⟩
theorem e_neg (ha : Ev ta σ H (.int i)) : Ev (tUn (rU fun i => .int (-i)) ta) σ H (.int (-i)) := fun H1 e Q q => ha H1 e _ fun v H2 Hs x hv => ⟨i, hv.of_int, q _ H2 Hs x (.int _)⟩
/-! tests -/
theorem t_test (h : Ev te σ H (.bl b)) : EvT (tTest te) σ H b := fun H1 e _ q => h H1 e _ fun v H2 Hs x hv => ⟨b, hv.of_bl, q H2 x.run⟩
theorem t_B (h : Ev te σ H (.bl b)) : EvT (tB te) σ H b := fun H1 e _ q => h H1 e _ fun v H2 Hs x hv => ⟨b, hv.of_bl, q H2 x.run⟩
theorem t_and (h1 : EvT t σ H a) (h2 : a = true → EvT u σ H b) : EvT (tAnd t u) σ H (a && b) := fun H1 e Q q => h1 H1 e _ fun H2 e2 => by
  cases a with
  | true => exact h2 rfl H2 (e.trans e2) Q fun H3 e3 => q H3 (e2.trans e3)
  | false => exact q H2 e2
theorem t_or (h1 : EvT t σ H a) (h2 : a = false → EvT u σ H b) : EvT (tOr t u) σ H (a || b) := fun H1 e Q q => h1 H1 e _ fun H2 e2 => by
  cases a with
  | true => exact q H2 e2
  | false => exact h2 rfl H2 (e.trans e2) Q fun H3 e3 => q H3 (e2.trans e3)
theorem t_not (h1 : EvT t σ H a) : EvT (tNot t) σ H (!a) := fun H1 e _ q => h1 H1 e _ fun H2 e2 => q H2 e2
theorem e_and (h1 : Ev ta σ H (.bl a)) (h2 : a = true → Ev tb σ H (.bl b)) : Ev (tAndV ta tb) σ H (.bl (a && b)) := fun H1 e Q q => h1 H1 e _ fun v H2 Hs x hv => ⟨a, hv.of_bl, by
  cases a with
  | true => exact ((h2 rfl).up x.grow) H2 x.sub Q fun v H3 Hs' y hv => q v H3 Hs' (x.trans y) hv
  | false => exact q _ H2 Hs x (.bl _)⟩
theorem e_or (h1 : Ev ta σ H (.bl a)) (h2 : a = false → Ev tb σ H (.bl b)) : Ev (tOrV ta tb) σ H (.bl (a || b)) := fun H1 e Q q => h1 H1 e _ fun v H2 Hs x hv => ⟨a, hv.of_bl, by
  cases a with
  | true => exact q _ H2 Hs x (.bl _)
  | false => exact ((h2 rfl).up x.grow) H2 x.sub Q fun v H3 Hs' y hv => q v H3 Hs' (x.trans y) hv⟩
theorem e_not (h1 : Ev ta σ H (.bl a)) : Ev (tNotV ta) σ H (.bl (!a)) := fun H1 e Q q => h1 H1 e _ fun v H2 Hs x hv => ⟨a, hv.of_bl, q _ H2 Hs x (.bl _)⟩
theorem ext_pre {H1 H2 H3 Hs : Hp} (s : Same H H1) (e : Same H1 H2) (x : Ext H H2 H3 Hs) : Ext H H1 H3 Hs := ⟨e.trans x.run, x.grow, x.sub, fun p o q => (x.new p o q).elim .inl fun z => .inr (e.free z)⟩
theorem e_if (h : EvT t σ H b) (h1 : b = true → Ev ta σ H d) (h2 : b = false → Ev tb σ H d) : Ev (tIf t ta tb) σ H d := fun H1 e Q q => h H1 e _ fun H2 e2 => by
  cases b with
  | true => exact h1 rfl H2 (e.trans e2) Q fun v H3 Hs x hv => q v H3 Hs (ext_pre e e2 x) hv
  | false => exact h2 rfl H2 (e.trans e2) Q fun v H3 Hs x hv => q v H3 Hs (ext_pre e e2 x) hv
theorem f_if (h : EvT t σ H b) (h1 : b = true → EvF ta σ H ds) (h2 : b = false → EvF tb σ H ds) : EvF (tIf t ta tb) σ H ds := fun H1 e Q q => h H1 e _ fun H2 e2 => by
  cases b with
  | true => exact h1 rfl H2 (e.trans e2) Q fun p vs H3 Hs n1 n2 hp x => q p vs H3 Hs (e2.free n1) n2 hp (ext_pre e e2 x)
  | false => exact h2 rfl H2 (e.trans e2) Q fun p vs H3 Hs n1 n2 hp x => q p vs H3 Hs (e2.free n1) n2 hp (ext_pre e e2 x)
/-! argument lists -/
theorem a_nil : EvA tNil σ H [] := fun H1 s _ q => q [] H1 H (.refl s) .nil
theorem a_cons {tr : TA} (h : Ev ta σ H d) (hr : EvA tr σ H ds) : EvA (tCons ta tr) σ H (d :: ds) := fun H1 e _ q =>
  h H1 e _ fun v H2 Hs x hv => (hr.up x.grow) H2 x.sub _ fun vs H3 Hs' y hvs => q _ H3 Hs' (x.trans y) (.cons (hv.up y.grow) hvs)
theorem e_tup (h : EvA aa σ H ds) (hl : ds.length ≤ sizeLine) : Ev (tTup aa) σ H (.tup ds) := fun H1 e _ q => h H1 e _ fun vs H2 Hs x hv =>
  ⟨by rw [hv.length]; exact hl, fun p hp => q _ _ (upd Hs p (.tup vs)) (x.put hp) (.tup (.inl upd_same) (hv.up (same_new (x.sub.free hp))))⟩
theorem f_lst (h : EvA aa σ H ds) (hl : ds.length ≤ sizeLine) : EvF (tLst aa) σ H ds := fun H1 e _ q => h H1 e _ fun vs H2 Hs x hv =>
  ⟨by rw [hv.length]; exact hl, fun p hp => q p vs _ Hs (x.run.free hp) (x.sub.free hp) upd_same (x.alloc hp) hv⟩
theorem o_none : EvO tNoPart σ H none := fun H1 _ _ q => q H1 (Same.refl H1)
theorem o_some (h : Ev te σ H (.int i)) : EvO (tPart te) σ H (some i) := fun H1 e _ q => h H1 e _ fun v H2 Hs x hv => ⟨i, hv.of_int, q H2 x.run⟩
/-- a slice -/
def cut {α : Type} (xs : List α) (lo hi : Option Int) : List α := (xs.drop (HT.sIx xs.length 0 lo)).take (HT.sIx xs.length xs.length hi - HT.sIx xs.length 0 lo)
theorem cut_dq {vs : List V} {lo hi : Option Int} (h : DqAll H vs ds) : DqAll H (cutV vs lo hi) (cut ds lo hi) := by
  unfold cutV cut
  rw [h.length]
  exact (h.drop _).take _
theorem cut_map {α β : Type} (f : α → β) (xs : List α) (lo hi : Option Int) : cut (xs.map f) lo hi = (cut xs lo hi).map f := by
  unfold cut
  rw [List.length_map, List.map_take, List.map_drop]
theorem rd_sub {H2 : Hp} {a : Addr} {u : HO} (e : Same H H2) (h : Rd H a u) : Rd H2 a u := rd_mono e h
theorem f_sl {tl th : TO} {lo hi : Option Int} (h : Ev te σ H (.lst ds)) (h1 : EvO tl σ H lo) (h2 : EvO th σ H hi) : EvF (tSl (rSlL K) te tl th) σ H (cut ds lo hi) := fun H1 e _ q =>
  h H1 e _ fun v H2 Hs x hv => h1 H2 (e.trans x.run) _ fun H3 e3 => h2 H3 ((e.trans x.run).trans e3) _ fun H4 e4 => by
    obtain ⟨a, xs, rfl, r, dq⟩ := hv.of_lst
    have y := (x.step e3).step e4
    exact ⟨a, xs, rfl, .inl (rd_mono y.sub r), fun p hp => q p _ _ Hs (y.run.free hp) (y.sub.free hp) upd_same (y.alloc hp) (cut_dq dq)⟩
theorem f_rev (h : Ev te σ H (.lst ds)) : EvF (tRevL K te) σ H ds.reverse := fun H1 e _ q => h H1 e _ fun v H2 Hs x hv => by
  obtain ⟨a, xs, rfl, r, dq⟩ := hv.of_lst
  exact ⟨a, xs, rfl, .inl (rd_mono x.sub r), fun p hp => q p _ _ Hs (x.run.free hp) (x.sub.free hp) upd_same (x.alloc hp) dq.rev⟩
/-! items -/
theorem atI_dq {vs : List V} {k : Int} (h : DqAll H vs ds) (e : atI ds k = some d) : ∃ v, atI vs k = some v ∧ Dq H v d := by
  unfold atI at e ⊢
  rw [h.length]
  cases q : ixN ds.length k with
  | none => rw [q] at e; cases e
  | some j =>
    rw [q] at e
    exact h.get e
theorem e_ixL (h : Ev ta σ H (.lst ds)) (hi : Ev tb σ H (.int i)) (hd : atI ds i = some d) : Ev (tOp (rIxL K) ta tb) σ H d := fun H1 e Q q =>
  two h hi e fun v w H3 Hs x hv hw => by
    obtain ⟨a, xs, rfl, r, dq⟩ := hv.of_lst
    obtain ⟨z, hz, dz⟩ := atI_dq dq hd
    exact ⟨a, xs, i, z, rfl, hw.of_int, .inl (rd_mono x.sub r), hz, q _ H3 Hs x dz⟩
theorem e_ixT (h : Ev ta σ H (.tup ds)) (hi : Ev tb σ H (.int i)) (hd : atI ds i = some d) : Ev (tOp (rIxT K) ta tb) σ H d := fun H1 e Q q =>
  two h hi e fun v w H3 Hs x hv hw => by
    obtain ⟨a, xs, rfl, r, dq⟩ := hv.of_tup
    obtain ⟨z, hz, dz⟩ := atI_dq dq hd
    exact ⟨a, xs, i, z, rfl, hw.of_int, .inl (rd_mono x.sub r), hz, q _ H3 Hs x dz⟩
/-! built-ins -/
abbrev rLn (K : PySem.W.Frag) : List V → Hp → VK → Prop := fun xs H Q => ∃ p ys, xs = [.ref p] ∧ (SqL K H p ys ∨ SqT K H p ys) ∧ Q (.int ys.length) H
abbrev rLs (K : PySem.W.Frag) : List V → Hp → VK → Prop := fun xs H Q => ∃ p ys, xs = [.ref p] ∧ (SqL K H p ys ∨ SqT K H p ys) ∧ ∀ l, H l = none → Q (.ref l) (upd H l (.lst ys))
theorem e_len (h : Ev te σ H (.lst ds)) : Ev (tCB (rLn K) (tCons te tNil)) σ H (.int ds.length) := fun H1 e Q q =>
  h H1 e _ fun v H2 Hs x hv => by
    obtain ⟨a, xs, rfl, r, dq⟩ := hv.of_lst
    exact ⟨a, xs, rfl, .inl (.inl (rd_mono x.sub r)), q _ H2 Hs x (by rw [dq.length]; exact .int _)⟩
theorem e_lenI {ns : List Int} (h : Ev te σ H (dI ns)) : Ev (tCB (rLn K) (tCons te tNil)) σ H (.int ns.length) := (e_len h).is (by rw [List.length_map])
theorem f_list (h : Ev te σ H (.lst ds)) : EvF (tCB (rLs K) (tCons te tNil)) σ H ds := fun H1 e Q q =>
  h H1 e _ fun v H2 Hs x hv => by
    obtain ⟨a, xs, rfl, r, dq⟩ := hv.of_lst
    exact ⟨a, xs, rfl, .inl (.inl (rd_mono x.sub r)), fun l hl => q l _ _ Hs (x.run.free hl) (x.sub.free hl) upd_same (x.alloc hl) dq⟩
theorem e_sum {ns : List Int} (h : Ev te σ H (dI ns)) : Ev (tCB (rSum K) (tCons te tNil)) σ H (.int ns.sum) := fun H1 e Q q =>
  h H1 e _ fun v H2 Hs x hv => by
    obtain ⟨a, rfl, r⟩ := hv.of_ints
    exact ⟨a, ns, rfl, .inl (rd_mono x.sub r), q _ H2 Hs x (.int _)⟩
theorem e_all {bs : List Bool} (h : Ev te σ H (.lst (bs.map .bl))) : Ev (tCB (rAll K) (tCons te tNil)) σ H (.bl (bs.all id)) := fun H1 e Q q =>
  h H1 e _ fun v H2 Hs x hv => by
    obtain ⟨a, xs, rfl, r, dq⟩ := hv.of_lst
    rw [bls_dq dq] at r
    exact ⟨a, bs, rfl, .inl (rd_mono x.sub r), q _ H2 Hs x (.bl _)⟩
theorem e_any {bs : List Bool} (h : Ev te σ H (.lst (bs.map .bl))) : Ev (tCB (rAny K) (tCons te tNil)) σ H (.bl (bs.any id)) := fun H1 e Q q =>
  h H1 e _ fun v H2 Hs x hv => by
    obtain ⟨a, xs, rfl, r, dq⟩ := hv.of_lst
    rw [bls_dq dq] at r
    exact ⟨a, bs, rfl, .inl (rd_mono x.sub r), q _ H2 Hs x (.bl _)⟩
end
/-! ### equality, by depth -/
mutual
def Da.py : Da → PyData
  | .non => .none
  | .bl b => .bool b
  | .int i => .int i
  | .str x => .str x
  | .lst xs => .list (pyAll xs)
  | .tup xs => .tuple (pyAll xs)
  | .edic => .none
  | .raw _ => .none
  | .sc _ _ => .none
def pyAll : List Da → List PyData
  | [] => []
  | x :: xs => x.py :: pyAll xs
end
/-- data of depth at most n, without dicts and raw things -/
def Pl : Nat → Da → Prop
  | _, .non => True
  | _, .bl _ => True
  | _, .int _ => True
  | _, .str x => PyData.canLay0 (.str x) = true
  | n + 1, .lst xs => ∀ x ∈ xs, Pl n x
  | n + 1, .tup xs => ∀ x ∈ xs, Pl n x
  | 0, .lst _ => False
  | 0, .tup _ => False
  | _, .edic => False
  | _, .raw _ => False
  | _, .sc _ _ => False
theorem pl_all {n : Nat} (h : ∀ d, Pl n d → PyData.canLay0 d.py = true ∧ PyData.depth d.py ≤ n) : ∀ ds : List Da, (∀ x ∈ ds, Pl n x) → PyData.canLayAll0 (pyAll ds) = true ∧ PyData.depthAll (pyAll ds) ≤ n
  | [], _ => ⟨rfl, Nat.zero_le _⟩
  | d :: ds, q => by
    obtain ⟨a, b⟩ := h d (q d (by simp))
    obtain ⟨a2, b2⟩ := pl_all h ds fun x hx => q x (by simp [hx])
    refine ⟨?_, ?_⟩
    · show (PyData.canLay0 d.py && PyData.canLayAll0 (pyAll ds)) = true
      rw [a, a2]; rfl
    · show max (PyData.depth d.py) (PyData.depthAll (pyAll ds)) ≤ n
      omega
theorem pl_py : ∀ (n : Nat) (d : Da), Pl n d → PyData.canLay0 d.py = true ∧ PyData.depth d.py ≤ n := by
  intro n
  induction n with
  | zero =>
    intro d h
    cases d <;> first | exact ⟨rfl, Nat.zero_le _⟩ | exact ⟨h, Nat.zero_le _⟩ | exact h.elim
  | succ n ih =>
    intro d h
    cases d with
    | lst xs =>
      obtain ⟨a, b⟩ := pl_all ih xs h
      exact ⟨a, by show PyData.depthAll (pyAll xs) + 1 ≤ n + 1; omega⟩
    | tup xs =>
      obtain ⟨a, b⟩ := pl_all ih xs h
      exact ⟨a, by show PyData.depthAll (pyAll xs) + 1 ≤ n + 1; omega⟩
    | str x => exact ⟨h, Nat.zero_le _⟩
    | edic => exact h.elim
    | raw v => exact h.elim
    | sc _ _ => exact h.elim
    | non => exact ⟨rfl, Nat.zero_le _⟩
    | bl b => exact ⟨rfl, Nat.zero_le _⟩
    | int i => exact ⟨rfl, Nat.zero_le _⟩
theorem Pl.shaped {n : Nat} {d : Da} (h : Pl n d) (hn : n ≤ 64) : SeqAt.shaped d.py = true := by
  obtain ⟨a, b⟩ := pl_py n d h
  unfold SeqAt.shaped
  rw [a, Bool.true_and]
  exact decide_eq_true (by omega)
theorem dp_all {K : PySem.W.Frag} {H : Hp} {n : Nat} (h : ∀ v d, Pl n d → Dq H v d → Dp K H v d.py) : ∀ (ds : List Da) (vs : List V), (∀ x ∈ ds, Pl n x) → DqAll H vs ds → DpAll K H vs (pyAll ds)
  | [], _, _, q => by cases q; exact .nil
  | d :: ds, _, a, q => by
    cases q with
    | cons q1 q2 => exact .cons (h _ _ (a d (by simp)) q1) (dp_all h ds _ (fun x hx => a x (by simp [hx])) q2)
theorem dq_dp {K : PySem.W.Frag} {H : Hp} : ∀ (n : Nat) (v : V) (d : Da), Pl n d → Dq H v d → Dp K H v d.py := by
  intro n
  induction n with
  | zero =>
    intro v d h q
    cases q with
    | non => exact .non
    | bl b => exact .bl b
    | int b => exact .int b
    | str b => exact .str b
    | lst _ _ => exact h.elim
    | tup _ _ => exact h.elim
    | edic _ => exact h.elim
    | raw _ => exact h.elim
    | sc _ => exact h.elim
  | succ n ih =>
    intro v d h q
    cases q with
    | non => exact .non
    | bl b => exact .bl b
    | int b => exact .int b
    | str b => exact .str b
    | lst r a => exact .lst (.inl r) (dp_all ih _ _ h a)
    | tup r a => exact .tup (.inl r) (dp_all ih _ _ h a)
    | edic _ => exact h.elim
    | raw _ => exact h.elim
    | sc _ => exact h.elim
def Da.eqv (d e : Da) : Bool := PyData.eqv d.py e.py
def eqvs (d e : List Da) : Bool := PyData.eqvAll (pyAll d) (pyAll e)
theorem eqv_rfl {n : Nat} {d : Da} (h : Pl n d) : Da.eqv d d = true := SeqAt.eqv_refl _ (pl_py n d h).1
theorem eqv_lst (d e : List Da) : Da.eqv (.lst d) (.lst e) = eqvs d e := rfl
theorem eqvs_nil : eqvs [] [] = true := rfl
theorem eqvs_cons (d e : Da) (ds es : List Da) : eqvs (d :: ds) (e :: es) = (Da.eqv d e && eqvs ds es) := rfl
theorem eqvs_nc (e : Da) (es : List Da) : eqvs [] (e :: es) = false := rfl
theorem eqvs_cn (e : Da) (es : List Da) : eqvs (e :: es) [] = false := rfl
theorem eqv_int (i j : Int) : Da.eqv (.int i) (.int j) = decide (i = j) := by
  show (i == j) = decide (i = j)
  by_cases h : i = j
  · subst h; simp
  · simp [h]
theorem eqv_bl (i j : Bool) : Da.eqv (.bl i) (.bl j) = decide (i = j) := by
  show (i == j) = decide (i = j)
  cases i <;> cases j <;> rfl
/-- two lists of things whose == is = -/
theorem eqvs_map {α : Type} [DecidableEq α] (f : α → Da) (h : ∀ a b, Da.eqv (f a) (f b) = decide (a = b)) : ∀ xs ys : List α, eqvs (xs.map f) (ys.map f) = decide (xs = ys)
  | [], [] => rfl
  | [], y :: ys => by rw [List.map_cons, List.map_nil, eqvs_nc]; simp
  | x :: xs, [] => by rw [List.map_cons, List.map_nil, eqvs_cn]; simp
  | x :: xs, y :: ys => by
    rw [List.map_cons, List.map_cons, eqvs_cons, h, eqvs_map f h xs ys]
    by_cases e : x = y
    · subst e
      by_cases e2 : xs = ys
      · subst e2; simp
      · simp [e2]
    · simp [e]
theorem eqv_map {α : Type} [DecidableEq α] (f : α → Da) (h : ∀ a b, Da.eqv (f a) (f b) = decide (a = b)) (xs ys : List α) : Da.eqv (.lst (xs.map f)) (.lst (ys.map f)) = decide (xs = ys) := eqvs_map f h xs ys
theorem eqv_dI (a b : List Int) : Da.eqv (dI a) (dI b) = decide (a = b) := eqv_map Da.int eqv_int a b
theorem eqv_dIs (a b : List (List Int)) : Da.eqv (.lst (a.map dI)) (.lst (b.map dI)) = decide (a = b) := eqv_map dI eqv_dI a b
theorem eqv_bls (a b : List Bool) : Da.eqv (.lst (a.map .bl)) (.lst (b.map .bl)) = decide (a = b) := eqv_map Da.bl eqv_bl a b
theorem pl_dI (ns : List Int) : Pl 1 (dI ns) := by
  intro x hx
  obtain ⟨i, _, rfl⟩ := List.mem_map.mp hx
  trivial
theorem pl_bls (ns : List Bool) : Pl 1 (.lst (ns.map .bl)) := by
  intro x hx
  obtain ⟨i, _, rfl⟩ := List.mem_map.mp hx
  trivial
theorem pl_dIs (ns : List (List Int)) : Pl 2 (.lst (ns.map dI)) := by
  intro x hx
  obtain ⟨i, _, rfl⟩ := List.mem_map.mp hx
  exact pl_dI i
theorem pl_int (i : Int) : Pl 0 (.int i) := trivial
theorem pl_bl (i : Bool) : Pl 0 (.bl i) := trivial
section
variable {K : PySem.W.Frag} {σ : L2.St} {H H' : Hp} {ta tb te tx : TE} {t u : TT} {v : V} {d e : Da} {ds es : List Da} {aa : TA} {i j : Int} {a b : Bool} {m n : Nat}
theorem e_eq (ha : Ev ta σ H d) (hb : Ev tb σ H e) (hd : Pl n d) (he : Pl m e) (hn : n ≤ 64 := by decide) (hm : m ≤ 64 := by decide) : Ev (tOp (rEqD K) ta tb) σ H (.bl (Da.eqv d e)) := fun H1 e1 Q q =>
  two ha hb e1 fun v w H3 Hs x hv hw => ⟨_, _, dq_dp n _ _ hd (hv.up x.sub), dq_dp m _ _ he (hw.up x.sub), hd.shaped hn, he.shaped hm, q _ H3 Hs x (.bl _)⟩
theorem e_ne (ha : Ev ta σ H d) (hb : Ev tb σ H e) (hd : Pl n d) (he : Pl m e) (hn : n ≤ 64 := by decide) (hm : m ≤ 64 := by decide) : Ev (tOp (rNeD K) ta tb) σ H (.bl (!Da.eqv d e)) := fun H1 e1 Q q =>
  two ha hb e1 fun v w H3 Hs x hv hw => ⟨_, _, dq_dp n _ _ hd (hv.up x.sub), dq_dp m _ _ he (hw.up x.sub), hd.shaped hn, he.shaped hm, q _ H3 Hs x (.bl _)⟩
theorem e_eqI (ha : Ev ta σ H (.int i)) (hb : Ev tb σ H (.int j)) : Ev (tOp (rEqD K) ta tb) σ H (.bl (decide (i = j))) := (e_eq ha hb (pl_int i) (pl_int j)).is (by rw [eqv_int])
theorem e_neI (ha : Ev ta σ H (.int i)) (hb : Ev tb σ H (.int j)) : Ev (tOp (rNeD K) ta tb) σ H (.bl (!decide (i = j))) := (e_ne ha hb (pl_int i) (pl_int j)).is (by rw [eqv_int])
theorem e_eqL {x y : List Int} (ha : Ev ta σ H (dI x)) (hb : Ev tb σ H (dI y)) : Ev (tOp (rEqD K) ta tb) σ H (.bl (decide (x = y))) := (e_eq ha hb (pl_dI x) (pl_dI y)).is (by rw [eqv_dI])
theorem e_neL {x y : List Int} (ha : Ev ta σ H (dI x)) (hb : Ev tb σ H (dI y)) : Ev (tOp (rNeD K) ta tb) σ H (.bl (!decide (x = y))) := (e_ne ha hb (pl_dI x) (pl_dI y)).is (by rw [eqv_dI])
theorem e_eqB (ha : Ev ta σ H (.bl a)) (hb : Ev tb σ H (.bl b)) : Ev (tOp (rEqD K) ta tb) σ H (.bl (decide (a = b))) := (e_eq ha hb (pl_bl a) (pl_bl b)).is (by rw [eqv_bl])
theorem e_neB (ha : Ev ta σ H (.bl a)) (hb : Ev tb σ H (.bl b)) : Ev (tOp (rNeD K) ta tb) σ H (.bl (!decide (a = b))) := (e_ne ha hb (pl_bl a) (pl_bl b)).is (by rw [eqv_bl])
/-! ### isinstance -/
def Da.ty : Da → String
  | .non => "NoneType"
  | .bl _ => "bool"
  | .int _ => "int"
  | .str _ => "str"
  | .lst _ => "list"
  | .tup _ => "tuple"
  | .edic => "dict"
  | .raw _ => "object"
  | .sc _ _ => "list"
def Da.tame : Da → Bool
  | .raw _ => false
  | .sc _ _ => false
  | _ => true
theorem dq_ty (h : Dq H v d) (t : d.tame = true) : TyX K H v (.type d.ty) := by
  cases h with
  | non => exact .base .non
  | bl b => exact .base (.bl b)
  | int b => exact .base (.int b)
  | str b => exact .base (.str b)
  | lst r _ =>
    rcases r with r | ⟨o, r⟩
    · exact .base (.lst r)
    · exact .base (.frz r)
  | tup r _ =>
    rcases r with r | ⟨o, r⟩
    · exact .base (.tup r)
    · exact .fTuple r
  | edic r => exact .base (.dK r)
  | raw v => cases t
  | sc _ => cases t
theorem e_isi {T : String} {r : Bool} (h : Ev te σ H d) (t : d.tame = true) (hk : kitB d.ty T = some r) : Ev (tCB (rIsi K) (tCons te (tCons (tC (.ty T)) tNil))) σ H (.bl r) := fun H1 e1 Q q =>
  h H1 e1 _ fun v H2 Hs x hv => ⟨v, .ty T, _, _, r, rfl, .ty T, dq_ty (hv.up x.sub) t, kit_ty hk, q _ H2 Hs x (.bl _)⟩
end
/-! ### list + list, list * int, over what may be read -/
def rCatR : R2 := fun x y H Q => ∃ l b xs zs, x = .ref l ∧ y = .ref b ∧ Rd H l (.lst xs) ∧ Rd H b (.lst zs) ∧ xs.length + zs.length ≤ sizeLine ∧ ∀ p, H p = none → Q (.ref p) (upd H p (.lst (xs ++ zs)))
section
variable {X : Cx}
theorem op_catR : OpR X (binaryOp .Add) rCatR := by
  intro pins s σ H x y v u Q I rx ry h
  obtain ⟨l, b, xs, zs, rfl, rfl, hH, hB, hz, q⟩ := h
  cases rx
  cases ry
  obtain ⟨z, its, n, r, e⟩ := hH.ok I.hok
  obtain ⟨z2, its2, n2, r2, e2⟩ := hB.ok I.hok
  have hl := r.length
  have hl2 := r2.length
  refine PySem.P.add_list e e2 ?_ (by rw [List.size_toArray, List.size_toArray]; omega)
  have ea : its.toArray ++ its2.toArray = (its ++ its2).toArray := by simp
  rw [ea]
  exact ⟨.ref _, _, I.lnew (t' := s.toks) (r.append r2) (by rw [List.length_append]; omega), rfl, q _ I.fresh⟩
/-- * of great ints -/
theorem op_mulM : OpR X (binaryOp .Mult) (rI IntMulOk fun i j => .int (i * j)) := opI fun _ _ _ _ _ _ _ hc q => mul_int q hc
end
section
variable {K : PySem.W.Frag} {σ : L2.St} {H H' : Hp} {ta tb te tx : TE} {t u : TT} {v : V} {d e : Da} {ds es : List Da} {aa : TA} {i j : Int} {a b : Bool} {m n : Nat}
theorem f_cat (ha : Ev ta σ H (.lst ds)) (hb : Ev tb σ H (.lst es)) (hl : ds.length + es.length ≤ sizeLine) : EvF (tOp rCatR ta tb) σ H (ds ++ es) := fun H1 e1 Q q =>
  two ha hb e1 fun v w H3 Hs x hv hw => by
    obtain ⟨a, xs, rfl, r, dq⟩ := hv.of_lst
    obtain ⟨b, ys, rfl, r2, dq2⟩ := hw.of_lst
    exact ⟨a, b, xs, ys, rfl, rfl, rd_mono x.sub r, rd_mono x.sub r2, by rw [dq.length, dq2.length]; exact hl, fun p hp => q p _ _ Hs (x.run.free hp) (x.sub.free hp) upd_same (x.alloc hp) (dq.append dq2)⟩
/-- a new list times an int -/
theorem rep_dq {vs : List V} (h : DqAll H vs ds) (k : Nat) : DqAll H (List.replicate k vs).flatten (List.replicate k ds).flatten := by
  induction k with
  | zero => exact .nil
  | succ k ih => rw [List.replicate_succ, List.replicate_succ, List.flatten_cons, List.flatten_cons]; exact h.append ih
theorem f_rep (ha : EvF ta σ H ds) (hb : Ev tb σ H (.int i)) (h1 : -(2 ^ 63) ≤ i) (h2 : i < 2 ^ 63) (hl : ds.length * i.toNat ≤ sizeLine) : EvF (tOp rRep ta tb) σ H (List.replicate i.toNat ds).flatten := fun H1 e1 Q q =>
  ha H1 e1 _ fun p vs H2 Hs n1 n2 hp x dq => (hb.up x.grow) H2 x.sub _ fun w H3 Hs' y hw => by
    refine ⟨p, i, vs, rfl, hw.of_int, y.run _ _ hp, h1, h2, by rw [dq.length]; exact hl, fun p' hp' => q p' _ _ Hs' ((x.trans y).run.free hp') (y.sub.free hp') upd_same ((x.trans y).alloc hp') ?_⟩
    exact rep_dq (dq.up y.grow) _
/-! ### sorted of ints -/
theorem sorted_one {a b : List Int} (p : a.Perm b) (ha : a.Pairwise (· ≤ ·)) (hb : b.Pairwise (· ≤ ·)) : a = b :=
  List.Perm.eq_of_pairwise (le := (· ≤ ·)) (fun x y _ _ h1 h2 => by omega) ha hb p
def srt (ns : List Int) : List Int := ns.mergeSort (fun a b => decide (a ≤ b))
theorem srt_perm (ns : List Int) : (srt ns).Perm ns := List.mergeSort_perm ns _
theorem srt_pw (ns : List Int) : (srt ns).Pairwise (· ≤ ·) := by
  have h := List.pairwise_mergeSort (le := fun a b : Int => decide (a ≤ b)) (fun a b c h1 h2 => by simp at *; omega) (fun a b => by simp; omega) ns
  exact h.imp fun q => by simpa using q
theorem srt_eq {a b : List Int} (h : a.Perm b) : srt a = srt b := sorted_one ((srt_perm a).trans (h.trans (srt_perm b).symm)) (srt_pw a) (srt_pw b)
theorem srt_iff {a b : List Int} : srt a = srt b ↔ a.Perm b := ⟨fun h => (srt_perm a).symm.trans (h ▸ srt_perm b), srt_eq⟩
theorem f_sorted {ns : List Int} (h : Ev te σ H (dI ns)) : EvF (tCB (rSortedI K) (tCons te tNil)) σ H ((srt ns).map .int) := fun H1 e Q q =>
  h H1 e _ fun v H2 Hs x hv => by
    obtain ⟨a, rfl, r⟩ := hv.of_ints
    refine ⟨a, ns, rfl, .inl (rd_mono x.sub r), fun ns' p hp hs hn => ?_⟩
    have es : ns' = srt ns := sorted_one (hp.trans (srt_perm ns).symm) hs (srt_pw ns)
    subst es
    exact q p _ _ Hs (x.run.free hn) (x.sub.free hn) upd_same (x.alloc hn) (dq_ints _)
end
/-! ### comprehensions -/
section
variable {K : PySem.W.Frag} {σ : L2.St} {H H' : Hp} {ta tb te tl : TE} {tt : TT} {v : V} {d e : Da} {ds es : List Da} {aa : TA} {i j : Int} {a b : Bool} {m n : Nat} {vs : List Nat}
/-- what a comprehension has made by turn i: s tells what each turn gives (none: the tests say no) -/
def col (s : Nat → Option Da) (n : Nat) : List Da := (List.range n).filterMap s
theorem col_succ (s : Nat → Option Da) (n : Nat) : col s (n + 1) = col s n ++ (s n).toList := by
  unfold col
  rw [List.range_succ, List.filterMap_append]
  congr 1
theorem col_len (s : Nat → Option Da) (n : Nat) : (col s n).length ≤ n := by
  unfold col
  exact Nat.le_trans (List.length_filterMap_le _ _) (by simp)
/-- the new list at D as it stands in turn i: H what stands still, H0 the heap ahead -/
def Cw (H H0 : Hp) (D : Addr) (s : Nat → Option Da) (i : Nat) (H' : Hp) : Prop := ∃ Hs ws, Same H0 H' ∧ H0 D = none ∧ Ext H H0 H' Hs ∧ Hs D = none ∧ H' D = some (.lst ws) ∧ DqAll Hs ws (col s i)
theorem cw_start {H0 : Hp} {D : Addr} {s : Nat → Option Da} (e : Same H H0) (h : H0 D = none) : Cw H H0 D s 0 (upd H0 D (.lst [])) :=
  ⟨H, [], same_new h, h, (Ext.refl e).alloc h, e.free h, upd_same, .nil⟩
/-- one turn: from the heap H2 that the target's assignment leaves -/
theorem cw_turn {H0 : Hp} {D : Addr} {s : Nat → Option Da} {i : Nat} {H2 : Hp} {σ2 : L2.St} (p : Cw H H0 D s i H') (e2 : Same H' H2) (hi : i < sizeLine) (ht : EvT tt σ2 H (s i).isSome) (he : ∀ y, s i = some y → Ev te σ2 H y) :
    tt σ2 H2 fun b H3 => if b = true then te σ2 H3 fun y H4 => ∃ acc, H4 D = some (.lst acc) ∧ acc.length < sizeLine ∧ Cw H H0 D s (i + 1) (upd H4 D (.lst (acc ++ [y]))) else Cw H H0 D s (i + 1) H3 := by
  obtain ⟨Hs, ws, sm, nD, x, nsD, hD, dq⟩ := p
  have x2 := x.step e2
  refine ht H2 ((x2.grow.trans x2.sub)) _ fun H3 e3 => ?_
  have x3 := x2.step e3
  cases q : s i with
  | none =>
    show Cw H H0 D s (i + 1) H3
    refine ⟨Hs, ws, x3.run, nD, x3, nsD, e3 _ _ (e2 _ _ hD), ?_⟩
    rw [col_succ, q]
    simp only [Option.toList_none, List.append_nil]
    exact dq
  | some y =>
    show te σ2 H3 _
    refine ((he y q).up x3.grow) H3 x3.sub _ fun v H4 Hs4 x4 hv => ?_
    have hD4 : H4 D = some (.lst ws) := x4.run _ _ (e3 _ _ (e2 _ _ hD))
    have n4 : Hs4 D = none := by
      cases g : Hs4 D with
      | none => rfl
      | some o =>
        rcases x4.new D o g with w | w
        · rw [nsD] at w; cases w
        · rw [e3 _ _ (e2 _ _ hD)] at w; cases w
    have y4 := x3.trans x4
    refine ⟨ws, hD4, ?_, Hs4, ws ++ [v], same_mut y4.run nD, nD, ⟨same_mut y4.run nD, y4.grow, same_mut y4.sub n4, y4.new⟩, n4, upd_same, ?_⟩
    · rw [dq.length]
      exact Nat.lt_of_le_of_lt (col_len s i) hi
    · rw [col_succ, q]
      exact (dq.up x4.grow).append (.cons hv .nil)
theorem cw_done {H0 H1 : Hp} {D : Addr} {s : Nat → Option Da} {H2 Hb Hs0 : Hp} {Q : VK} (x0 : Ext Hb H1 H0 Hs0) (p : Cw Hs0 H0 D s n H2) (q : ∀ p vs H2 Hs, H1 p = none → Hs p = none → H2 p = some (.lst vs) → Ext Hb H1 H2 Hs → DqAll Hs vs (col s n) → Q (.ref p) H2) : Q (.ref D) H2 := by
  obtain ⟨Hs, ws, sm, nD, x, nsD, hD, dq⟩ := p
  exact q D ws H2 Hs (x0.run.free nD) nsD hD (x0.trans x) dq
/-- [.. for x in list ..]: x in slot j -/
theorem f_lcL {j : Nat} (s : Nat → Option Da) (h : Ev tl σ H (.lst ds)) (hz : ds.length ≤ sizeLine) (hw : ∀ x, wipe ((wipe σ vs).set j (some x)) vs = wipe σ vs)
    (ht : ∀ i v d H', ds[i]? = some d → Same H H' → Dq H' v d → EvT tt ((wipe σ vs).set j (some v)) H' (s i).isSome) (he : ∀ i v d y H', ds[i]? = some d → s i = some y → Same H H' → Dq H' v d → Ev te ((wipe σ vs).set j (some v)) H' y) :
    EvF (tLc (iList K tl) (gName j) tt te vs) σ H (col s ds.length) := fun H1 e1 Q q => h H1 e1 _ fun v H2 Hs x hv => by
  obtain ⟨a, xs, rfl, r, dq⟩ := hv.of_lst
  refine ⟨a, rfl, ⟨xs, .inl (rd_mono x.sub r)⟩, fun D nD => ?_⟩
  have hl := dq.length
  refine lc_it (walk_list (K := K) (a := a) (xs := xs)) (Cw Hs H2 D s) (cw_start x.sub nD) (fun i H' _ p => ?_) (fun i x' H3 H4 hi p y => ?_) fun H3 p => ?_
  · obtain ⟨_, _, sm, _⟩ := p
    exact .inl (rd_mono sm (rd_mono x.sub r))
  · obtain ⟨rfl, hx⟩ := y
    obtain ⟨d, hd, hq⟩ := dq.get' hx
    exact ⟨hw x', cw_turn p (Same.refl _) (by omega) (ht i x' d Hs hd x.grow hq) fun y hy => he i x' d y Hs hd hy x.grow hq⟩
  · rw [hl] at p
    exact cw_done x p q
/-- over range(n) -/
theorem f_lcR {j : Nat} {k : Int} (s : Nat → Option Da) (h : EvA aa σ H [.int k]) (hz : k ≤ 1000000) (hz0 : -1000000 ≤ k) (hw : ∀ x, wipe ((wipe σ vs).set j (some x)) vs = wipe σ vs)
    (ht : ∀ i, i < k.toNat → EvT tt ((wipe σ vs).set j (some (.int (i : Nat)))) H (s i).isSome) (he : ∀ i y, i < k.toNat → s i = some y → Ev te ((wipe σ vs).set j (some (.int (i : Nat)))) H y) :
    EvF (tLc (iRng1 aa) (gName j) tt te vs) σ H (col s k.toNat) := fun H1 e1 Q q => h H1 e1 _ fun ws H2 Hs x hv => by
  cases hv with
  | cons h1 h2 =>
    cases h2
    cases h1
    refine ⟨k, rfl, by omega, by omega, fun D nD => ?_⟩
    refine lc_it (walk_range (lo := 0) (n := k.toNat)) (Cw Hs H2 D s) (cw_start x.sub nD) (fun i H' _ p => trivial) (fun i x' H3 H4 hi p y => ?_) fun H3 p => ?_
    · obtain ⟨rfl, hx⟩ := y
      have e0 : x' = .int (i : Nat) := by rw [hx]; show V.int (0 + ((i : Nat) : Int)) = V.int (i : Nat); rw [Int.zero_add]
      subst e0
      exact ⟨hw _, cw_turn p (Same.refl _) (Nat.lt_of_lt_of_le hi (Nat.le_trans (by omega : k.toNat ≤ 1000000) (by decide))) ((ht i hi).up x.grow) fun y hy => (he i y hi hy).up x.grow⟩
    · exact cw_done x p q
/-- over range(lo, hi) -/
theorem f_lcR2 {j : Nat} {lo k : Int} (s : Nat → Option Da) (h : EvA aa σ H [.int lo, .int k]) (hz : k ≤ 1000000 ∧ lo ≤ 1000000) (hz0 : -1000000 ≤ k ∧ -1000000 ≤ lo) (hw : ∀ x, wipe ((wipe σ vs).set j (some x)) vs = wipe σ vs)
    (ht : ∀ i, i < (k - lo).toNat → EvT tt ((wipe σ vs).set j (some (.int (lo + (i : Nat))))) H (s i).isSome) (he : ∀ i y, i < (k - lo).toNat → s i = some y → Ev te ((wipe σ vs).set j (some (.int (lo + (i : Nat))))) H y) :
    EvF (tLc (iRng2 aa) (gName j) tt te vs) σ H (col s (k - lo).toNat) := fun H1 e1 Q q => h H1 e1 _ fun ws H2 Hs x hv => by
  cases hv with
  | cons h1 h2 =>
    cases h2 with
    | cons h2 h3 =>
      cases h3
      cases h1
      cases h2
      refine ⟨lo, k, rfl, ⟨by omega, by omega, by omega, by omega⟩, fun D nD => ?_⟩
      refine lc_it (walk_range (lo := lo) (n := (k - lo).toNat)) (Cw Hs H2 D s) (cw_start x.sub nD) (fun i H' _ p => trivial) (fun i x' H3 H4 hi p y => ?_) fun H3 p => ?_
      · obtain ⟨rfl, hx⟩ := y
        subst hx
        exact ⟨hw _, cw_turn p (Same.refl _) (Nat.lt_of_lt_of_le hi (Nat.le_trans (by omega : (k - lo).toNat ≤ 2000000) (by decide))) ((ht i hi).up x.grow) fun y hy => (he i y hi hy).up x.grow⟩
      · exact cw_done x p q
/-- over enumerate(list): the place in slot j, the item in slot l -/
theorem f_lcE {j l : Nat} (s : Nat → Option Da) (h : Ev tl σ H (.lst ds)) (hz : ds.length ≤ sizeLine) (hw : ∀ x y, wipe (((wipe σ vs).set j (some x)).set l (some y)) vs = wipe σ vs)
    (ht : ∀ i v d H', ds[i]? = some d → Same H H' → Dq H' v d → EvT tt (((wipe σ vs).set j (some (.int (i : Nat)))).set l (some v)) H' (s i).isSome) (he : ∀ i v d y H', ds[i]? = some d → s i = some y → Same H H' → Dq H' v d → Ev te (((wipe σ vs).set j (some (.int (i : Nat)))).set l (some v)) H' y) :
    EvF (tLc (iEnum K (tCons tl tNil)) (gTup K 2 (gCons (gName j) (gCons (gName l) gNil))) tt te vs) σ H (col s ds.length) := fun H1 e1 Q q => h H1 e1 _ fun v H2 Hs x hv => by
  obtain ⟨a, xs, rfl, r, dq⟩ := hv.of_lst
  refine ⟨a, xs, rfl, .inl (rd_mono x.sub r), fun D nD => ?_⟩
  have hl := dq.length
  refine lc_it (walk_enum (K := K) (a := a) (xs := xs)) (Cw Hs H2 D s) (cw_start x.sub nD) (fun i H' _ p => ?_) (fun i x' H3 H4 hi p y => ?_) fun H3 p => ?_
  · obtain ⟨_, _, sm, _⟩ := p
    exact .inl (rd_mono sm (rd_mono x.sub r))
  · obtain ⟨T, x1, y1, rfl, nT, rfl, e1, e2⟩ := y
    cases e1
    obtain ⟨d, hd, hq⟩ := dq.get' e2
    refine ⟨T, _, rfl, .inl (.inl upd_same), rfl, _, _, rfl, _, _, rfl, rfl, hw _ _, ?_⟩
    exact cw_turn p (same_new nT) (by omega) (ht i y1 d Hs hd x.grow hq) fun y hy => he i y1 d y Hs hd hy x.grow hq
  · rw [hl] at p
    exact cw_done x p q
theorem t_yes : EvT tYes σ H true := fun H1 _ _ q => q H1 (Same.refl _)
end

/-! ### promises by data -/
/-- n arguments of which f tells what comes: data | a new list -/
def spD (n : Nat) (f : List Da → Da → Prop) : Sp := fun vs H Q _ => ∃ Hb ds d, Same Hb H ∧ DqAll Hb vs ds ∧ ds.length = n ∧ f ds d ∧ ∀ v H' Hs, Ext Hb H H' Hs → Dq Hs v d → Q v H'
def spF (n : Nat) (f : List Da → List Da → Prop) : Sp := fun vs H Q _ => ∃ Hb ds xs, Same Hb H ∧ DqAll Hb vs ds ∧ ds.length = n ∧ f ds xs ∧ ∀ p ws H' Hs, H p = none → Hs p = none → H' p = some (.lst ws) → Ext Hb H H' Hs → DqAll Hs ws xs → Q (.ref p) H'
/-- or it is refused by the class at C -/
def orX (sp : Sp) (n : Nat) (f : List Da → Addr → Prop) : Sp := fun vs H Q E => sp vs H Q E ∨ ∃ Hb ds C, Same Hb H ∧ DqAll Hb vs ds ∧ ds.length = n ∧ f ds C ∧ ∀ H', Same H H' → E (.ref C) none H'
section
variable {σ : L2.St} {H H' : Hp} {te : TE} {d : Da} {ds es : List Da} {aa : TA} {n : Nat} {E : XK} {f : List Da → Da → Prop} {g : List Da → List Da → Prop} {h : List Da → Addr → Prop}
theorem spD_len {vs : List V} {Q : VK} (p : spD n f vs H Q E) : vs.length = n := by
  obtain ⟨_, ds, _, _, q, hl, _⟩ := p
  rw [q.length, hl]
theorem spF_len {vs : List V} {Q : VK} (p : spF n g vs H Q E) : vs.length = n := by
  obtain ⟨_, ds, _, _, q, hl, _⟩ := p
  rw [q.length, hl]
theorem orX_len {sp : Sp} {vs : List V} {Q : VK} (hs : sp vs H Q E → vs.length = n) (p : orX sp n h vs H Q E) : vs.length = n := by
  rcases p with p | ⟨_, ds, _, _, q, hl, _⟩
  · exact hs p
  · rw [q.length, hl]
theorem e_call (ha : EvA aa σ H ds) (hf : f ds d) (hn : ds.length = n := by rfl) : Ev (tCall (spD n f) [] E aa) σ H d := fun H1 e Q q => ha H1 e _ fun vs H2 Hs x hv =>
  ⟨Hs, ds, d, x.sub, by rw [List.append_nil]; exact hv, hn, hf, fun v H3 Hs' y hd => q v H3 Hs' (x.trans y) hd⟩
theorem f_call (ha : EvA aa σ H ds) (hf : g ds es) (hn : ds.length = n := by rfl) : EvF (tCall (spF n g) [] E aa) σ H es := fun H1 e Q q => ha H1 e _ fun vs H2 Hs x hv =>
  ⟨Hs, ds, es, x.sub, by rw [List.append_nil]; exact hv, hn, hf, fun p ws H3 Hs' n1 n2 hp y hd => q p ws H3 Hs' (x.run.free n1) n2 hp (x.trans y) hd⟩
theorem e_callX {m : Nat} (ha : EvA aa σ H ds) (hf : f ds d) (hn : ds.length = n := by rfl) : Ev (tCall (orX (spD n f) m h) [] E aa) σ H d := fun H1 e Q q => by
  refine ha H1 e _ fun vs H2 Hs x hv => .inl ?_
  exact ⟨Hs, ds, d, x.sub, by rw [List.append_nil]; exact hv, hn, hf, fun v H3 Hs' y hd => q v H3 Hs' (x.trans y) hd⟩
theorem f_callX {m : Nat} (ha : EvA aa σ H ds) (hf : g ds es) (hn : ds.length = n := by rfl) : EvF (tCall (orX (spF n g) m h) [] E aa) σ H es := fun H1 e Q q => by
  refine ha H1 e _ fun vs H2 Hs x hv => .inl ?_
  exact ⟨Hs, ds, es, x.sub, by rw [List.append_nil]; exact hv, hn, hf, fun p ws H3 Hs' n1 n2 hp y hd => q p ws H3 Hs' (x.run.free n1) n2 hp (x.trans y) hd⟩
end
/-! ### a def of the text with its promise -/
structure GF (P : Program) (w : World) (K : PySem.W.Frag) (mg : Str → Option Value) (base : Heap) (CX : CXT) (x : Str) (k : Nat) (ps : List Str) (sp : Sp) : Prop where
  ex : ∃ (f : Addr) (fd : FuncData), mg x = some (.ref f) ∧ PySem.W.keepIn K (.ref f) = true ∧ Binds K fd ps [] ∧ FnOk P w K mg base CX k f fd ps sp ∧ ∃ oc od osl, K.lookup f = some ⟨oc, od, .func fd, osl⟩
section
variable {P : Program} {w : World} {K : PySem.W.Frag} {mg : Str → Option Value} {base : Heap} {CX : CXT} {x : Str} {params : Arguments} {body : List Stmt} {scope : Scope} {f : Addr} {fd : FuncData}
theorem gf_of {N ps : List Str} {k : Nat} {sp : Sp} (F : FunD K x x params body scope [] [] f fd) (hm : mg x = some (.ref f))
    (hb : ∀ (kV doc pm : Value) (an : Option Addr) (cdv ct : Value) (us : List Value), us.length = ps.length → bindArgs (PySem.W.fnOf x x params body scope .none kV doc pm an cdv ct) ⟨us, []⟩ = pure (ps.zip us))
    (S : FnScope N ps scope) (len : ∀ vs H Q E, sp vs H Q E → vs.length = ps.length)
    (hbody : ∀ (cdv : Value) (A : Around) (outer : List Env) (s : Shared) (H : Hp) (vs : List V) (Q : VK) (E : XK), Room k (A.deeper (envOfC x scope s.heap.objs.size f cdv)) → sp vs H Q E →
      ∃ t, PSs (cxOf CX P w K mg base N x scope f cdv A outer s H E) body t ∧ t { nx := fun _ H' => Q .non H', rt := Q } (start N vs) H) : GF P w K mg base CX x (k + 1) ps sp :=
  ⟨f, fd, hm, F.kp, F.bindsN hb, F.ok S len hbody, by
    obtain ⟨oc, od, _, _, _, _, _, _, _, osl, _, lk, _⟩ := F.ex
    exact ⟨oc, od, osl, lk⟩⟩
end
section
variable {X : Cx} {CX : CXT} {k m : Nat} {x : Str} {ps : List Str} {sp : Sp} {E : XK} {p pos : Pos} {e : Expr} {es : List Expr} {t : TA}
theorem pe_g (G : GF X.prog X.w X.K X.mg X.base CX x k ps sp) (hr : Room m X.A) (hx : Passes CX X E) (ha : PA X (e :: es) t) (hk : k ≤ m := by decide) (hg : Gl X x := by rfl) (hdb : (x == ("__debug__" : Str)) = false := by decide)
    (he : starEach (e :: es) X.env = (false, eval e X.env) :: starEach es X.env := by rfl) (hpl : (backTo pos (starEach es X.env)).any (·.1) = false := by rfl) : PE X (.Call (.Name x p) (e :: es) [] pos) (tCall sp [] E t) := by
  obtain ⟨f, fd, hm, hkp, hb, F, _⟩ := G.ex
  exact pe_call F (hr.mono hk) hg hm hkp hb .nil hx ha hdb he hpl
theorem pe_g0 (G : GF X.prog X.w X.K X.mg X.base CX x k ps sp) (hr : Room m X.A) (hx : Passes CX X E) (hk : k ≤ m := by decide) (hg : Gl X x := by rfl) (hdb : (x == ("__debug__" : Str)) = false := by decide) : PE X (.Call (.Name x p) [] [] pos) (tCall sp [] E tNil) := by
  obtain ⟨f, fd, hm, hkp, hb, F, _⟩ := G.ex
  exact pe_call0 F (hr.mono hk) hg hm hkp hb .nil hx hdb
end

theorem units65 {k : Nat} {A : Around} (r : Room k A) : A.units + 65 < cLine := by have := r.un; omega
section
variable {σ : L2.St} {H H1 H2 Hs Hs2 : Hp} {te : TE} {tt : TT} {d : Da} {ds es : List Da} {aa : TA} {b : Bool} {l p : Addr} {o : HO}
theorem Ev.go {Q : VK} (h : Ev te σ Hs d) (s : Same Hs H) (k : ∀ v H2 Hs2, Ext Hs H H2 Hs2 → Dq Hs2 v d → Q v H2) : te σ H Q := h H s Q k
theorem EvF.go {Q : VK} (h : EvF te σ Hs ds) (s : Same Hs H) (k : ∀ p vs H2 Hs2, H p = none → Hs2 p = none → H2 p = some (.lst vs) → Ext Hs H H2 Hs2 → DqAll Hs2 vs ds → Q (.ref p) H2) : te σ H Q := h H s Q k
theorem EvT.go {Q : Bool → Hp → Prop} (h : EvT tt σ Hs b) (s : Same Hs H) (k : ∀ H2, Same H H2 → Q b H2) : tt σ H Q := h H s Q k
/-- what changes stays beside what stands still -/
theorem Ext.mut (x : Ext Hs H H2 Hs2) (n : Hs l = none) (h : H l = some o) : Hs2 l = none := by
  cases g : Hs2 l with
  | none => rfl
  | some u =>
    rcases x.new l u g with w | w
    · rw [n] at w; cases w
    · rw [h] at w; cases w
theorem same_upd2 (e : Same Hs H) (n : Hs l = none) : Same (upd Hs l o) (upd H l o) := fun b u q => by
  by_cases h : b = l
  · subst h; rw [upd_same] at q ⊢; exact q
  · rw [upd_ne h] at q ⊢; exact e b u q
/-- a list that changes, read for a while -/
theorem same_in (e : Same Hs H) (h : H l = some o) : Same (upd Hs l o) H := fun b u q => by
  by_cases z : b = l
  · subst z; rw [upd_same] at q; rw [h]; exact q
  · rw [upd_ne z] at q; exact e b u q
theorem col_shift (s : Nat → Option Da) (n : Nat) : col s (n + 1) = (s 0).toList ++ col (fun i => s (i + 1)) n := by
  unfold col
  rw [List.range_succ_eq_map, List.filterMap_cons, List.filterMap_map]
  cases h : s 0 <;> simp [Function.comp_def]
theorem col_get {α : Type} (F : α → Option Da) : ∀ (xs : List α), col (fun i => (xs[i]?).bind F) xs.length = xs.filterMap F
  | [] => rfl
  | x :: xs => by
    rw [List.length_cons, col_shift, List.filterMap_cons]
    have ih := col_get F xs
    simp only [List.getElem?_cons_zero, List.getElem?_cons_succ, Option.bind_some]
    rw [ih]
    cases F x <;> rfl
theorem col_map {α : Type} (F : α → Da) (xs : List α) : col (fun i => (xs[i]?).map F) xs.length = xs.map F := by
  have h := col_get (fun x => some (F x)) xs
  rw [List.filterMap_eq_map'] at h
  rw [← h]
  congr 1
  funext i
  cases xs[i]? <;> rfl
theorem col_all (F : Nat → Da) (n : Nat) : col (fun i => some (F i)) n = (List.range n).map F := by
  unfold col
  rw [List.filterMap_eq_map']
end
/-! ### isinstance of data -/
def Da.isNum : Da → Bool
  | .int _ => true
  | _ => false
theorem kit_ni : kitB "NoneType" "int" = some false := by decide +kernel
theorem kit_bi : kitB "bool" "int" = some true := by decide +kernel
theorem kit_ii : kitB "int" "int" = some true := by decide +kernel
theorem kit_si : kitB "str" "int" = some false := by decide +kernel
theorem kit_li : kitB "list" "int" = some false := by decide +kernel
theorem kit_ti : kitB "tuple" "int" = some false := by decide +kernel
theorem kit_di : kitB "dict" "int" = some false := by decide +kernel
theorem kit_bb : kitB "bool" "bool" = some true := by decide +kernel
theorem kit_ib : kitB "int" "bool" = some false := by decide +kernel
theorem kit_ll : kitB "list" "list" = some true := by decide +kernel
theorem kit_nl : kitB "NoneType" "list" = some false := by decide +kernel
theorem kit_bl : kitB "bool" "list" = some false := by decide +kernel
theorem kit_il : kitB "int" "list" = some false := by decide +kernel
theorem kit_sl : kitB "str" "list" = some false := by decide +kernel
theorem kit_tl : kitB "tuple" "list" = some false := by decide +kernel
theorem kit_dl : kitB "dict" "list" = some false := by decide +kernel
def Da.isB : Da → Bool
  | .bl _ => true
  | _ => false
def Da.isI : Da → Bool
  | .bl _ => true
  | .int _ => true
  | _ => false
def Da.isL : Da → Bool
  | .lst _ => true
  | _ => false
theorem kit_L {d : Da} (t : d.tame = true) : kitB d.ty "list" = some d.isL := by
  cases d with
  | non => exact kit_nl
  | bl _ => exact kit_bl
  | int _ => exact kit_il
  | str _ => exact kit_sl
  | lst _ => exact kit_ll
  | tup _ => exact kit_tl
  | edic => exact kit_dl
  | raw _ => cases t
  | sc _ _ => cases t
theorem kit_I {d : Da} (t : d.tame = true) : kitB d.ty "int" = some d.isI := by
  cases d with
  | non => exact kit_ni
  | bl _ => exact kit_bi
  | int _ => exact kit_ii
  | str _ => exact kit_si
  | lst _ => exact kit_li
  | tup _ => exact kit_ti
  | edic => exact kit_di
  | raw _ => cases t
  | sc _ _ => cases t
theorem kit_nb : kitB "NoneType" "bool" = some false := by decide +kernel
theorem kit_sb : kitB "str" "bool" = some false := by decide +kernel
theorem kit_lb : kitB "list" "bool" = some false := by decide +kernel
theorem kit_tb : kitB "tuple" "bool" = some false := by decide +kernel
theorem kit_db : kitB "dict" "bool" = some false := by decide +kernel
theorem kit_B {d : Da} (t : d.tame = true) : kitB d.ty "bool" = some d.isB := by
  cases d with
  | non => exact kit_nb
  | bl _ => exact kit_bb
  | int _ => exact kit_ib
  | str _ => exact kit_sb
  | lst _ => exact kit_lb
  | tup _ => exact kit_tb
  | edic => exact kit_db
  | raw _ => cases t
  | sc _ _ => cases t
theorem isI_not_isB (d : Da) : (d.isI && !d.isB) = d.isNum := by cases d <;> rfl

theorem fm_if {α β : Type} (p : α → Bool) (g : α → β) : ∀ ns : List α, ns.filterMap (fun z => if p z = true then some (g z) else none) = (ns.filter p).map g
  | [] => rfl
  | a :: r => by
    rw [List.filterMap_cons, List.filter_cons, fm_if p g r]
    cases q : p a <;> simp
section
variable {K : PySem.W.Frag} {σ : L2.St} {H H' : Hp} {te tl : TE} {tt : TT} {aa : TA} {vs : List Nat} {ns : List Int}
theorem get_int {i : Nat} {d : Da} (h : (ns.map Da.int)[i]? = some d) : ∃ z, ns[i]? = some z ∧ d = .int z := by
  rw [List.getElem?_map] at h
  cases e : ns[i]? with
  | none => rw [e] at h; cases h
  | some z => rw [e] at h; exact ⟨z, rfl, (Option.some.inj h).symm⟩
/-- [g for x in ints if p] -/
theorem f_lcI {j : Nat} (p : Int → Bool) (g : Int → Da) (h : Ev tl σ H (dI ns)) (hz : ns.length ≤ sizeLine) (hw : ∀ x, wipe ((wipe σ vs).set j (some x)) vs = wipe σ vs)
    (ht : ∀ z, z ∈ ns → EvT tt ((wipe σ vs).set j (some (.int z))) H (p z)) (he : ∀ z, z ∈ ns → p z = true → Ev te ((wipe σ vs).set j (some (.int z))) H (g z)) :
    EvF (tLc (iList K tl) (gName j) tt te vs) σ H ((ns.filter p).map g) := by
  refine (f_lcL (fun i => (ns[i]?).bind fun z => if p z = true then some (g z) else none) h (by rw [List.length_map]; exact hz) hw (fun i v d H1 hd s1 hv => ?_) fun i v d y H1 hd hy s1 hv => ?_).is ?_
  · obtain ⟨z, e, rfl⟩ := get_int hd
    cases hv
    refine ((ht z (List.mem_of_getElem? e)).up s1).is ?_
    rw [e]
    cases q : p z <;> simp [q]
  · obtain ⟨z, e, rfl⟩ := get_int hd
    cases hv
    rw [e] at hy
    cases q : p z with
    | false => simp [q] at hy
    | true =>
      simp [q] at hy
      subst hy
      exact (he z (List.mem_of_getElem? e) q).up s1
  · rw [List.length_map, col_get, fm_if]
/-- over enumerate(ints) -/
theorem f_lcEI {j l : Nat} (F : Nat → Int → Option Da) (h : Ev tl σ H (dI ns)) (hz : ns.length ≤ sizeLine) (hw : ∀ x y, wipe (((wipe σ vs).set j (some x)).set l (some y)) vs = wipe σ vs)
    (ht : ∀ i z, ns[i]? = some z → EvT tt (((wipe σ vs).set j (some (.int (i : Nat)))).set l (some (.int z))) H (F i z).isSome) (he : ∀ i z y, ns[i]? = some z → F i z = some y → Ev te (((wipe σ vs).set j (some (.int (i : Nat)))).set l (some (.int z))) H y) :
    EvF (tLc (iEnum K (tCons tl tNil)) (gTup K 2 (gCons (gName j) (gCons (gName l) gNil))) tt te vs) σ H (col (fun i => (ns[i]?).bind (F i)) ns.length) := by
  refine (f_lcE (fun i => (ns[i]?).bind (F i)) h (by rw [List.length_map]; exact hz) hw (fun i v d H1 hd s1 hv => ?_) fun i v d y H1 hd hy s1 hv => ?_).is ?_
  · obtain ⟨z, e, rfl⟩ := get_int hd
    cases hv
    rw [e]
    exact (ht i z e).up s1
  · obtain ⟨z, e, rfl⟩ := get_int hd
    cases hv
    rw [e] at hy
    exact (he i z y e hy).up s1
  · rw [List.length_map]
/-- slices -/
theorem cut_to {α : Type} (xs : List α) (n : Nat) : cut xs none (some (n : Int)) = xs.take n := by
  unfold cut
  rw [HT.sIx_none, HT.sIx_nat, List.drop_zero, Nat.sub_zero]
  rcases Nat.le_total n xs.length with h | h
  · rw [Nat.min_eq_left h]
  · rw [Nat.min_eq_right h, List.take_of_length_le (Nat.le_refl _), List.take_of_length_le h]
theorem cut_from {α : Type} (xs : List α) (n : Nat) : cut xs (some (n : Int)) none = xs.drop n := by
  unfold cut
  rw [HT.sIx_none, HT.sIx_nat]
  rcases Nat.le_total n xs.length with h | h
  · rw [Nat.min_eq_left h, List.take_of_length_le (Nat.le_of_eq (by rw [List.length_drop]))]
  · rw [Nat.min_eq_right h, Nat.sub_self, List.take_zero, List.drop_of_length_le h]
theorem sIx_m1 (n d : Nat) : HT.sIx n d (some (-1)) = n - 1 := by
  unfold HT.sIx
  simp
  omega
theorem cut_last {α : Type} (xs : List α) : cut xs (some (-1)) none = xs.drop (xs.length - 1) := by
  unfold cut
  rw [HT.sIx_none, sIx_m1, List.take_of_length_le (Nat.le_of_eq (by rw [List.length_drop]))]
theorem cut_init {α : Type} (xs : List α) : cut xs none (some (-1)) = xs.dropLast := by
  unfold cut
  rw [HT.sIx_none, sIx_m1, List.drop_zero, Nat.sub_zero, List.dropLast_eq_take]
theorem cut_int (ns : List Int) (lo hi : Option Int) : cut (ns.map Da.int) lo hi = (cut ns lo hi).map Da.int := cut_map _ _ _ _
end

theorem col_congr {s t : Nat → Option Da} : ∀ {n : Nat}, (∀ i, i < n → s i = t i) → col s n = col t n
  | 0, _ => rfl
  | n + 1, h => by
    rw [col_succ, col_succ, col_congr fun i hi => h i (by omega), h n (by omega)]
/-! ### the rules with the written part by its name -/
section
variable {X : Cx} {K : PySem.W.Frag}
theorem kLen (h : X.K = K) : CallR X (.builtin "len") (rLn K) := h ▸ call_len_seq
theorem kSum (h : X.K = K) (hc : X.calm = true) : CallR X (.builtin "sum") (rSum K) := h ▸ cr_sum hc
theorem kAll (h : X.K = K) (hc : X.calm = true) : CallR X (.builtin "all") (rAll K) := h ▸ cr_all hc
theorem kAny (h : X.K = K) (hc : X.calm = true) : CallR X (.builtin "any") (rAny K) := h ▸ cr_any hc
theorem kIsi (h : X.K = K) : CallR X (.builtin "isinstance") (rIsi K) := h ▸ call_isi
theorem kSorted (h : X.K = K) : CallR X (.builtin "sorted") (rSortedI K) := h ▸ cr_sortedI
theorem kList (h : X.K = K) : CallR X (.type "list") (rLs K) := h ▸ call_list_of
theorem kIx (h : X.K = K) : IxR X (rIxL K) := h ▸ ix_list
theorem kIxT (h : X.K = K) : IxR X (rIxT K) := h ▸ ix_tup
theorem kSl (h : X.K = K) : SlR X (rSlL K) := h ▸ sl_list
theorem kEq {k : Nat} (h : X.K = K) (hr : Room k X.A) : OpR X (compareOp .Eq) (rEqD K) := h ▸ op_eqD hr.units
theorem kNe {k : Nat} (h : X.K = K) (hr : Room k X.A) : OpR X (compareOp .NotEq) (rNeD K) := h ▸ op_neD hr.units
theorem kIn {k : Nat} (h : X.K = K) (hr : Room k X.A) : OpR X (compareOp .In) (rInD K) := h ▸ op_inD (units65 hr)
theorem kNotIn {k : Nat} (h : X.K = K) (hr : Room k X.A) : OpR X (compareOp .NotIn) (rNotInD K) := h ▸ op_notInD (units65 hr)
theorem kCount (h : X.K = K) : MtR X "list.count" (rCntI K) := h ▸ mt_lcount
theorem k_list {tg e : Expr} {tl : TE} (h : X.K = K) (hl : PE X e tl) : PI X tg e (iList K tl) := h ▸ pi_list hl
theorem k_tup {tg e : Expr} {tl : TE} (h : X.K = K) (hl : PE X e tl) : PI X tg e (iTup K tl) := h ▸ pi_tup hl
theorem k_enum {e : Expr} {ta : TA} {p pos tpos : Pos} {elts : List Expr} {kk : Nat} (h : X.K = K) (hm : X.mg "enumerate" = none) (ha : PA X [e] ta) (hg : Gl X "enumerate" := by rfl) (hs : starEach [e] X.env = [(false, eval e X.env)] := by rfl) :
    PI X (.Tuple elts kk tpos) (.Call (.Name "enumerate" p) [e] [] pos) (iEnum K ta) := h ▸ pi_enum hg hm ha hs
theorem k_bm {T id : String} {r : V → List V → Hp → VK → Prop} {o e : Expr} {es : List Expr} {to : TE} {t : TA} {apos cpos : Pos} {nm : Str} (h : X.K = K) (pa : PlainAttrs T) (slot : Slot T nm id) (hty : typeOf (.builtin id) = pure (.type "method_descriptor")) (hm : MtR X id r) (ho : PE X o to) (ha : PA X (e :: es) t)
    (hbase : attributeBase o nm X.env (eval o X.env) = eval o X.env := by rfl)
    (hfew : ((backTo cpos (starEach (e :: es) X.env)).all (fun x => !x.1) && (backToKw cpos (keywordEach [] X.env)).all (fun x => x.1.isSome)
      && decide ((e :: es).length + ([] : List Keyword).length + (if ([] : List Keyword).isEmpty then 0 else 1) < 30)) = true := by rfl)
    (hline : (apos.endLine == cpos.line) = true := by rfl) (hs : starEach (e :: es) X.env = (false, eval e X.env) :: starEach es X.env := by rfl) (hplain : (backTo cpos (starEach es X.env)).any (·.1) = false := by rfl) :
    PE X (.Call (.Attribute o nm apos) (e :: es) [] cpos) (tBM K T r to t) := h ▸ pe_bm pa slot hty hm ho ha hbase hfew hline hs hplain
theorem k_revL {e : Expr} {te : TE} {k : Nat} {p1 p2 p3 pos : Pos} (h : X.K = K) (he : PE X e te) : PE X (.Subscript e (.Slice none none (some (.UnaryOp .USub (.Constant (.int 1) k p1) p2)) p3) pos) (tRevL K te) := h ▸ pe_revL he
end

/-! ### lists that change -/
section
variable {K : PySem.W.Frag} {σ : L2.St} {H Hs : Hp} {te tv : TE} {d : Da} {ds : List Da} {l : Addr} {xs : List V} {i : Nat} {Q : VK}
theorem m_append (hi : σ[i]? = some (some (.ref l))) (hl : H l = some (.lst xs)) (hz : xs.length < sizeLine) (h : Ev te σ Hs d) (s : Same Hs H) (k : ∀ v H2 Hs2, Ext Hs H H2 Hs2 → Dq Hs2 v d → Q .non (upd H2 l (.lst (xs ++ [v])))) :
    tBM K "list" rAppend (tVar i) (tCons te tNil) σ H Q :=
  ⟨.ref l, hi, .inl ⟨rfl, xs, .inl (.inl hl)⟩, h H s _ fun v H2 Hs2 x hv => ⟨l, xs, v, rfl, rfl, x.run _ _ hl, hz, k v H2 Hs2 x hv⟩⟩
theorem m_extend (hi : σ[i]? = some (some (.ref l))) (hl : H l = some (.lst xs)) (hz : xs.length + ds.length ≤ sizeLine) (h : EvF te σ Hs ds) (s : Same Hs H) (k : ∀ p vs H2 Hs2, H p = none → H2 p = some (.lst vs) → Ext Hs H H2 Hs2 → DqAll Hs2 vs ds → Q .non (upd H2 l (.lst (xs ++ vs)))) :
    tBM K "list" rExtend (tVar i) (tCons te tNil) σ H Q :=
  ⟨.ref l, hi, .inl ⟨rfl, xs, .inl (.inl hl)⟩, h H s _ fun p vs H2 Hs2 n1 n2 hp x hv => ⟨l, p, xs, vs, rfl, rfl, x.run _ _ hl, hp, by rw [hv.length]; exact hz, k p vs H2 Hs2 n1 hp x hv⟩⟩
theorem m_pop {y : V} (hi : σ[i]? = some (some (.ref l))) (hl : H l = some (.lst xs)) (hy : xs[xs.length - 1]? = some y) (k : Q y (upd H l (.lst xs.dropLast))) : tBM0 K "list" rPop (tVar i) σ H Q :=
  ⟨.ref l, hi, .inl ⟨rfl, xs, .inl (.inl hl)⟩, l, xs, y, rfl, rfl, hl, hy, k⟩
/-- what was there stands: behind a store to what is new -/
theorem same_put {H0 H : Hp} {o : HO} (e : Same H0 H) (n : H0 l = none) : Same H0 (upd H l o) := same_mut e n
theorem at_ne {H : Hp} {o u : HO} {p : Addr} (h : H p = some u) (ne : p ≠ l) : upd H l o p = some u := by rw [upd_ne ne]; exact h
end

/-! ### the script -/
section
variable {K : PySem.W.Frag} {σ : L2.St} {H : Hp} {te tb : TE} {ns ms : List Int} {v : V}
theorem Dq.of_sc (h : Dq H v (.sc K ns)) : ∃ a, v = .ref a ∧ SqL K H a (ns.map V.int) := by
  cases h with
  | sc r => exact ⟨_, rfl, r⟩
theorem f_slS {tl th : TO} {lo hi : Option Int} (h : Ev te σ H (.sc K ns)) (h1 : EvO tl σ H lo) (h2 : EvO th σ H hi) : EvF (tSl (rSlL K) te tl th) σ H ((cut ns lo hi).map .int) := fun H1 e _ q =>
  h H1 e _ fun v H2 Hs x hv => h1 H2 (e.trans x.run) _ fun H3 e3 => h2 H3 ((e.trans x.run).trans e3) _ fun H4 e4 => by
    obtain ⟨a, rfl, r⟩ := hv.of_sc
    have y := (x.step e3).step e4
    refine ⟨a, _, rfl, y.sub.seq r, fun p hp => q p _ _ Hs (y.run.free hp) (y.sub.free hp) upd_same (y.alloc hp) ?_⟩
    have z := cut_dq (lo := lo) (hi := hi) (dq_ints (H := Hs) ns)
    rw [cut_int] at z
    exact z
theorem e_lenS (h : Ev te σ H (.sc K ns)) : Ev (tCB (rLn K) (tCons te tNil)) σ H (.int ns.length) := fun H1 e Q q =>
  h H1 e _ fun v H2 Hs x hv => by
    obtain ⟨a, rfl, r⟩ := hv.of_sc
    exact ⟨a, _, rfl, .inl (x.sub.seq r), q _ H2 Hs x (by rw [List.length_map]; exact .int _)⟩
theorem dp_ints {a : Addr} (h : SqL K H a (ns.map V.int)) : Dp K H (.ref a) (dI ns).py := by
  refine .lst h ?_
  exact dp_all (fun v d p q => dq_dp 1 v d p q) _ _ (fun x hx => by
    obtain ⟨z, _, rfl⟩ := List.mem_map.mp hx
    trivial) (dq_ints ns)
theorem e_neS (ha : Ev te σ H (.sc K ns)) (hb : Ev tb σ H (dI ms)) : Ev (tOp (rNeD K) te tb) σ H (.bl (!decide (ns = ms))) := fun H1 e1 Q q =>
  two ha hb e1 fun v w H3 Hs x hv hw => by
    obtain ⟨a, rfl, r⟩ := hv.of_sc
    refine ⟨_, _, dp_ints (x.sub.seq r), dq_dp 1 _ _ (pl_dI ms) (hw.up x.sub), (pl_dI ns).shaped (by decide), (pl_dI ms).shaped (by decide), q _ H3 Hs x ?_⟩
    have e : PyData.eqv (dI ns).py (dI ms).py = decide (ns = ms) := eqv_dI ns ms
    rw [e]
    exact .bl _
end
end SX

/-! AS: states of a def's run by data alone: slots that hold what stands still, and lists of one's own. -/
namespace SX
open PySem PySem.Spec PyProof.Rows L2

/-- a slot: not known; data that stands still; a list of one's own -/
inductive Sl where
  | u | d (x : Da) | o (xs : List Da)
abbrev AS := List Sl

theorem unitsS {k : Nat} {A : Around} (r : Room k A) : A.in1.in1.units < cLine := by
  have := r.un
  show A.units + 1 + 1 < cLine
  omega
/-! ### what is read -/
def SlV (H : Hp) : Sl → Option V → Prop
  | .u, _ => True
  | .d x, v => ∃ w, v = some w ∧ Dq H w x
  | .o xs, v => ∃ w, v = some w ∧ Dq H w (.lst xs)
structure View (H : Hp) (as : AS) (σ : L2.St) : Prop where
  len : as.length = σ.length
  at_ : ∀ (i : Nat) a, as[i]? = some a → ∃ v, σ[i]? = some v ∧ SlV H a v
def wipeA (as : AS) : List Nat → AS
  | [] => as
  | v :: vs => (wipeA as vs).set v .u
section
variable {H H' : Hp} {as : AS} {σ : L2.St} {a : Sl} {v : Option V} {j l : Nat} {vs : List Nat}
theorem SlV.up (h : SlV H a v) (e : Same H H') : SlV H' a v := by
  cases a with
  | u => trivial
  | d x => obtain ⟨w, q, r⟩ := h; exact ⟨w, q, r.up e⟩
  | o x => obtain ⟨w, q, r⟩ := h; exact ⟨w, q, r.up e⟩
theorem View.up (h : View H as σ) (e : Same H H') : View H' as σ := ⟨h.len, fun i a q => let ⟨v, h1, h2⟩ := h.at_ i a q; ⟨v, h1, h2.up e⟩⟩
theorem View.set (h : View H as σ) (k : SlV H a v) (j : Nat) : View H (as.set j a) (σ.set j v) := by
  refine ⟨by rw [List.length_set, List.length_set]; exact h.len, fun i b q => ?_⟩
  by_cases e : j = i
  · subst e
    by_cases hj : j < as.length
    · rw [List.getElem?_set_self hj] at q
      cases q
      exact ⟨v, by rw [List.getElem?_set_self (by rw [← h.len]; exact hj)], k⟩
    · rw [List.getElem?_eq_none (by simpa using hj)] at q; cases q
  · rw [List.getElem?_set_ne e] at q ⊢
    exact h.at_ i b q
theorem View.setD {w : V} {x : Da} (h : View H as σ) (k : Dq H w x) (j : Nat) : View H (as.set j (.d x)) (σ.set j (some w)) := h.set (a := .d x) (v := some w) ⟨w, rfl, k⟩ j
theorem View.wipe (h : View H as σ) : ∀ vs : List Nat, View H (wipeA as vs) (L2.wipe σ vs)
  | [] => h
  | v :: vs => View.set (h.wipe vs) (a := .u) (v := none) trivial v
theorem wipe_get (σ : L2.St) (i : Nat) : ∀ vs : List Nat, (L2.wipe σ vs)[i]? = if i ∈ vs then (if i < σ.length then some none else none) else σ[i]?
  | [] => by simp [L2.wipe]
  | v :: vs => by
    show ((L2.wipe σ vs).set v none)[i]? = _
    by_cases e : v = i
    · subst e
      by_cases hv : v < σ.length
      · rw [List.getElem?_set_self (by rw [wipe_length]; exact hv)]; simp [hv]
      · rw [List.getElem?_eq_none (by rw [List.length_set, wipe_length]; omega)]; simp [hv]
    · rw [List.getElem?_set_ne e, wipe_get σ i vs]
      have : i ≠ v := fun z => e z.symm
      simp [this]
theorem wipe_set (σ : L2.St) (hj : j ∈ vs) (x : V) : L2.wipe ((L2.wipe σ vs).set j (some x)) vs = L2.wipe σ vs := by
  apply List.ext_getElem?
  intro i
  rw [wipe_get, wipe_get, List.length_set, wipe_length]
  by_cases hi : i ∈ vs
  · rw [if_pos hi, if_pos hi]
  · rw [if_neg hi, if_neg hi, List.getElem?_set_ne (by intro z; subst z; exact hi hj), wipe_get, if_neg hi]
theorem wipe_set2 (σ : L2.St) (hj : j ∈ vs) (hl : l ∈ vs) (x y : V) : L2.wipe (((L2.wipe σ vs).set j (some x)).set l (some y)) vs = L2.wipe σ vs := by
  apply List.ext_getElem?
  intro i
  rw [wipe_get, wipe_get, List.length_set, List.length_set, wipe_length]
  by_cases hi : i ∈ vs
  · rw [if_pos hi, if_pos hi]
  · rw [if_neg hi, if_neg hi, List.getElem?_set_ne (by intro z; subst z; exact hi hl), List.getElem?_set_ne (by intro z; subst z; exact hi hj), wipe_get, if_neg hi]
end
def EvS (te : TE) (as : AS) (d : Da) : Prop := ∀ σ H, View H as σ → Ev te σ H d
def FvS (te : TE) (as : AS) (ds : List Da) : Prop := ∀ σ H, View H as σ → EvF te σ H ds
def TvS (tt : TT) (as : AS) (b : Bool) : Prop := ∀ σ H, View H as σ → EvT tt σ H b
def AvS (ta : TA) (as : AS) (ds : List Da) : Prop := ∀ σ H, View H as σ → EvA ta σ H ds
def OvS (to : TO) (as : AS) (o : Option Int) : Prop := ∀ σ H, View H as σ → EvO to σ H o
section
variable {K : PySem.W.Frag} {as : AS} {ta tb tc te tl tx : TE} {t u tt : TT} {v : V} {d e : Da} {ds es : List Da} {aa : TA} {i j k : Int} {a b : Bool} {m n : Nat} {vs : List Nat} {ns ms : List Int} {E : XK}
  {f : List Da → Da → Prop} {g : List Da → List Da → Prop} {h : List Da → Addr → Prop}
theorem FvS.ev (h : FvS te as ds) : EvS te as (.lst ds) := fun σ H v => (h σ H v).ev
theorem EvS.is (h : EvS te as d) (q : d = e) : EvS te as e := q ▸ h
theorem FvS.is (h : FvS te as ds) (q : ds = es) : FvS te as es := q ▸ h
theorem TvS.is (h : TvS t as a) (q : a = b) : TvS t as b := q ▸ h
theorem s_v {i : Nat} {x : Da} (h : as[i]? = some (.d x)) : EvS (tVar i) as x := fun σ H w => by
  obtain ⟨v, h1, z, rfl, h2⟩ := w.at_ i _ h
  exact e_var h1 h2
theorem s_vo {i : Nat} {xs : List Da} (h : as[i]? = some (.o xs)) : EvS (tVar i) as (.lst xs) := fun σ H w => by
  obtain ⟨v, h1, z, rfl, h2⟩ := w.at_ i _ h
  exact e_var h1 h2
theorem s_slS {tl th : TO} {lo hi : Option Int} (h : EvS te as (.sc K ns)) (h1 : OvS tl as lo) (h2 : OvS th as hi) : FvS (tSl (rSlL K) te tl th) as ((cut ns lo hi).map .int) := fun σ H v => f_slS (h σ H v) (h1 σ H v) (h2 σ H v)
theorem s_lenS (h : EvS te as (.sc K ns)) : EvS (tCB (rLn K) (tCons te tNil)) as (.int ns.length) := fun σ H v => e_lenS (h σ H v)
theorem s_neS (ha : EvS te as (.sc K ns)) (hb : EvS tb as (dI ms)) : EvS (tOp (rNeD K) te tb) as (.bl (!decide (ns = ms))) := fun σ H v => e_neS (ha σ H v) (hb σ H v)
theorem s_cI {z : Int} : EvS (tC (.int z)) as (.int z) := fun _ _ _ => e_cI
theorem s_cB {z : Bool} : EvS (tC (.bl z)) as (.bl z) := fun _ _ _ => e_cB
theorem s_cS {z : Str} : EvS (tC (.str z)) as (.str z) := fun _ _ _ => e_cS
theorem s_cN : EvS (tC .non) as .non := fun _ _ _ => e_cN
theorem s_cT {z : String} : EvS (tC (.ty z)) as (.raw (.ty z)) := fun _ _ _ => e_cT
theorem s_cR {z : Addr} : EvS (tC (.ref z)) as (.raw (.ref z)) := fun _ _ _ => e_cR
theorem s_II {f : Int → Int → Int} (ha : EvS ta as (.int i)) (hb : EvS tb as (.int j)) : EvS (tOp (rI0 fun i j => .int (f i j)) ta tb) as (.int (f i j)) := fun σ H v => e_II (ha σ H v) (hb σ H v)
theorem s_IB {f : Int → Int → Bool} (ha : EvS ta as (.int i)) (hb : EvS tb as (.int j)) : EvS (tOp (rI0 fun i j => .bl (f i j)) ta tb) as (.bl (f i j)) := fun σ H v => e_IB (ha σ H v) (hb σ H v)
theorem s_IC {C : Int → Int → Prop} {f : Int → Int → Int} (ha : EvS ta as (.int i)) (hb : EvS tb as (.int j)) (hc : C i j) : EvS (tOp (rI C fun i j => .int (f i j)) ta tb) as (.int (f i j)) := fun σ H v => e_IC (ha σ H v) (hb σ H v) hc
theorem s_neg (ha : EvS ta as (.int i)) : EvS (tUn (rU fun i => .int (-i)) ta) as (.int (-i)) := fun σ H v => e_neg (ha σ H v)
theorem s_test (h : EvS te as (.bl b)) : TvS (tTest te) as b := fun σ H v => t_test (h σ H v)
theorem s_B (h : EvS te as (.bl b)) : TvS (tB te) as b := fun σ H v => t_B (h σ H v)
theorem s_tand (h1 : TvS t as a) (h2 : a = true → TvS u as b) : TvS (tAnd t u) as (a && b) := fun σ H v => t_and (h1 σ H v) fun z => h2 z σ H v
theorem s_tor (h1 : TvS t as a) (h2 : a = false → TvS u as b) : TvS (tOr t u) as (a || b) := fun σ H v => t_or (h1 σ H v) fun z => h2 z σ H v
theorem s_tnot (h1 : TvS t as a) : TvS (tNot t) as (!a) := fun σ H v => t_not (h1 σ H v)
theorem s_and (h1 : EvS ta as (.bl a)) (h2 : a = true → EvS tb as (.bl b)) : EvS (tAndV ta tb) as (.bl (a && b)) := fun σ H v => e_and (h1 σ H v) fun z => h2 z σ H v
theorem s_or (h1 : EvS ta as (.bl a)) (h2 : a = false → EvS tb as (.bl b)) : EvS (tOrV ta tb) as (.bl (a || b)) := fun σ H v => e_or (h1 σ H v) fun z => h2 z σ H v
theorem s_not (h1 : EvS ta as (.bl a)) : EvS (tNotV ta) as (.bl (!a)) := fun σ H v => e_not (h1 σ H v)
theorem s_if (h : TvS t as b) (h1 : b = true → EvS ta as d) (h2 : b = false → EvS tb as d) : EvS (tIf t ta tb) as d := fun σ H v => e_if (h σ H v) (fun z => h1 z σ H v) fun z => h2 z σ H v
theorem s_fif (h : TvS t as b) (h1 : b = true → FvS ta as ds) (h2 : b = false → FvS tb as ds) : FvS (tIf t ta tb) as ds := fun σ H v => f_if (h σ H v) (fun z => h1 z σ H v) fun z => h2 z σ H v
/-- a if t else b: ints -/
theorem s_ifI (h : TvS t as b) (h1 : b = true → EvS ta as (.int i)) (h2 : b = false → EvS tb as (.int j)) : EvS (tIf t ta tb) as (.int (if b = true then i else j)) := s_if h (fun z => by subst z; exact h1 rfl) fun z => by subst z; exact h2 rfl
theorem s_anil : AvS tNil as [] := fun _ _ _ => a_nil
theorem s_acons {tr : TA} (h : EvS ta as d) (hr : AvS tr as ds) : AvS (tCons ta tr) as (d :: ds) := fun σ H v => a_cons (h σ H v) (hr σ H v)
theorem s_tup (h : AvS aa as ds) (hl : ds.length ≤ sizeLine) : EvS (tTup aa) as (.tup ds) := fun σ H v => e_tup (h σ H v) hl
theorem s_lst (h : AvS aa as ds) (hl : ds.length ≤ sizeLine) : FvS (tLst aa) as ds := fun σ H v => f_lst (h σ H v) hl
theorem s_lstI {ns : List Int} (h : AvS aa as (ns.map .int)) (hl : ns.length ≤ sizeLine) : FvS (tLst aa) as (ns.map .int) := s_lst h (by rw [List.length_map]; exact hl)
theorem s_one (h : EvS te as (.int i)) : FvS (tLst (tCons te tNil)) as ([i].map .int) := s_lstI (s_acons h s_anil) (Nat.le_trans (Nat.le_of_eq rfl : _ ≤ 1) (by decide))
theorem s_n0 : FvS (tLst tNil) as (([] : List Int).map .int) := s_lstI s_anil (Nat.zero_le _)
theorem s_n1 {a : Int} : FvS (tLst (tCons (tC (.int a)) tNil)) as ([a].map .int) := s_lstI (s_acons s_cI s_anil) (Nat.le_trans (Nat.le_of_eq rfl : _ ≤ 1) (by decide))
theorem s_n2 {a b : Int} : FvS (tLst (tCons (tC (.int a)) (tCons (tC (.int b)) tNil))) as ([a, b].map .int) := s_lstI (s_acons s_cI (s_acons s_cI s_anil)) (Nat.le_trans (Nat.le_of_eq rfl : _ ≤ 2) (by decide))
theorem s_n3 {a b c : Int} : FvS (tLst (tCons (tC (.int a)) (tCons (tC (.int b)) (tCons (tC (.int c)) tNil)))) as ([a, b, c].map .int) := s_lstI (s_acons s_cI (s_acons s_cI (s_acons s_cI s_anil))) (Nat.le_trans (Nat.le_of_eq rfl : _ ≤ 3) (by decide))
theorem s_n4 {a b c d : Int} : FvS (tLst (tCons (tC (.int a)) (tCons (tC (.int b)) (tCons (tC (.int c)) (tCons (tC (.int d)) tNil))))) as ([a, b, c, d].map .int) := s_lstI (s_acons s_cI (s_acons s_cI (s_acons s_cI (s_acons s_cI s_anil)))) (Nat.le_trans (Nat.le_of_eq rfl : _ ≤ 4) (by decide))
theorem s_n5 {a b c d e : Int} : FvS (tLst (tCons (tC (.int a)) (tCons (tC (.int b)) (tCons (tC (.int c)) (tCons (tC (.int d)) (tCons (tC (.int e)) tNil)))))) as ([a, b, c, d, e].map .int) := s_lstI (s_acons s_cI (s_acons s_cI (s_acons s_cI (s_acons s_cI (s_acons s_cI s_anil))))) (Nat.le_trans (Nat.le_of_eq rfl : _ ≤ 5) (by decide))
theorem s_onone : OvS tNoPart as none := fun _ _ _ => o_none
theorem s_osome (h : EvS te as (.int i)) : OvS (tPart te) as (some i) := fun σ H v => o_some (h σ H v)
theorem s_sl {tl th : TO} {lo hi : Option Int} (h : EvS te as (.lst ds)) (h1 : OvS tl as lo) (h2 : OvS th as hi) : FvS (tSl (rSlL K) te tl th) as (cut ds lo hi) := fun σ H v => f_sl (h σ H v) (h1 σ H v) (h2 σ H v)
theorem s_slI {tl th : TO} {lo hi : Option Int} (h : EvS te as (dI ns)) (h1 : OvS tl as lo) (h2 : OvS th as hi) : FvS (tSl (rSlL K) te tl th) as ((cut ns lo hi).map .int) := (s_sl h h1 h2).is (cut_int _ _ _)
theorem s_rev (h : EvS te as (.lst ds)) : FvS (tRevL K te) as ds.reverse := fun σ H v => f_rev (h σ H v)
theorem s_revI (h : EvS te as (dI ns)) : FvS (tRevL K te) as (ns.reverse.map .int) := (s_rev h).is (by rw [List.map_reverse])
theorem s_ixL (h : EvS ta as (.lst ds)) (hi : EvS tb as (.int i)) (hd : atI ds i = some d) : EvS (tOp (rIxL K) ta tb) as d := fun σ H v => e_ixL (h σ H v) (hi σ H v) hd
theorem s_ixT (h : EvS ta as (.tup ds)) (hi : EvS tb as (.int i)) (hd : atI ds i = some d) : EvS (tOp (rIxT K) ta tb) as d := fun σ H v => e_ixT (h σ H v) (hi σ H v) hd
theorem s_len (h : EvS te as (.lst ds)) : EvS (tCB (rLn K) (tCons te tNil)) as (.int ds.length) := fun σ H v => e_len (h σ H v)
theorem s_lenI (h : EvS te as (dI ns)) : EvS (tCB (rLn K) (tCons te tNil)) as (.int ns.length) := fun σ H v => e_lenI (h σ H v)
theorem s_list (h : EvS te as (.lst ds)) : FvS (tCB (rLs K) (tCons te tNil)) as ds := fun σ H v => f_list (h σ H v)
theorem s_sum (h : EvS te as (dI ns)) : EvS (tCB (rSum K) (tCons te tNil)) as (.int ns.sum) := fun σ H v => e_sum (h σ H v)
theorem s_all {bs : List Bool} (h : EvS te as (.lst (bs.map .bl))) : EvS (tCB (rAll K) (tCons te tNil)) as (.bl (bs.all id)) := fun σ H v => e_all (h σ H v)
theorem s_any {bs : List Bool} (h : EvS te as (.lst (bs.map .bl))) : EvS (tCB (rAny K) (tCons te tNil)) as (.bl (bs.any id)) := fun σ H v => e_any (h σ H v)
theorem s_eq (ha : EvS ta as d) (hb : EvS tb as e) (hd : Pl n d) (he : Pl m e) (hn : n ≤ 64 := by decide) (hm : m ≤ 64 := by decide) : EvS (tOp (rEqD K) ta tb) as (.bl (Da.eqv d e)) := fun σ H v => e_eq (ha σ H v) (hb σ H v) hd he hn hm
theorem s_ne (ha : EvS ta as d) (hb : EvS tb as e) (hd : Pl n d) (he : Pl m e) (hn : n ≤ 64 := by decide) (hm : m ≤ 64 := by decide) : EvS (tOp (rNeD K) ta tb) as (.bl (!Da.eqv d e)) := fun σ H v => e_ne (ha σ H v) (hb σ H v) hd he hn hm
theorem s_eqI (ha : EvS ta as (.int i)) (hb : EvS tb as (.int j)) : EvS (tOp (rEqD K) ta tb) as (.bl (decide (i = j))) := fun σ H v => e_eqI (ha σ H v) (hb σ H v)
theorem s_neI (ha : EvS ta as (.int i)) (hb : EvS tb as (.int j)) : EvS (tOp (rNeD K) ta tb) as (.bl (!decide (i = j))) := fun σ H v => e_neI (ha σ H v) (hb σ H v)
theorem s_eqL (ha : EvS ta as (dI ns)) (hb : EvS tb as (dI ms)) : EvS (tOp (rEqD K) ta tb) as (.bl (decide (ns = ms))) := fun σ H v => e_eqL (ha σ H v) (hb σ H v)
theorem s_neL (ha : EvS ta as (dI ns)) (hb : EvS tb as (dI ms)) : EvS (tOp (rNeD K) ta tb) as (.bl (!decide (ns = ms))) := fun σ H v => e_neL (ha σ H v) (hb σ H v)
theorem s_eqB (ha : EvS ta as (.bl a)) (hb : EvS tb as (.bl b)) : EvS (tOp (rEqD K) ta tb) as (.bl (decide (a = b))) := fun σ H v => e_eqB (ha σ H v) (hb σ H v)
theorem s_neB (ha : EvS ta as (.bl a)) (hb : EvS tb as (.bl b)) : EvS (tOp (rNeD K) ta tb) as (.bl (!decide (a = b))) := fun σ H v => e_neB (ha σ H v) (hb σ H v)
theorem s_isi {T : String} {r : Bool} (h : EvS te as d) (t : d.tame = true) (hk : kitB d.ty T = some r) : EvS (tCB (rIsi K) (tCons te (tCons (tC (.ty T)) tNil))) as (.bl r) := fun σ H v => e_isi (h σ H v) t hk
theorem s_isiL (h : EvS te as d) (t : d.tame = true) : EvS (tCB (rIsi K) (tCons te (tCons (tC (.ty "list")) tNil))) as (.bl d.isL) := s_isi h t (kit_L t)
theorem s_isiI (h : EvS te as d) (t : d.tame = true) : EvS (tCB (rIsi K) (tCons te (tCons (tC (.ty "int")) tNil))) as (.bl d.isI) := s_isi h t (kit_I t)
theorem s_isiB (h : EvS te as d) (t : d.tame = true) : EvS (tCB (rIsi K) (tCons te (tCons (tC (.ty "bool")) tNil))) as (.bl d.isB) := s_isi h t (kit_B t)
theorem s_cat (ha : EvS ta as (.lst ds)) (hb : EvS tb as (.lst es)) (hl : ds.length + es.length ≤ sizeLine) : FvS (tOp rCatR ta tb) as (ds ++ es) := fun σ H v => f_cat (ha σ H v) (hb σ H v) hl
theorem s_catI (ha : EvS ta as (dI ns)) (hb : EvS tb as (dI ms)) (hl : ns.length + ms.length ≤ sizeLine) : FvS (tOp rCatR ta tb) as ((ns ++ ms).map .int) := (s_cat ha hb (by rw [List.length_map, List.length_map]; exact hl)).is (by rw [List.map_append])
theorem s_rep (ha : FvS ta as ds) (hb : EvS tb as (.int i)) (h1 : -(2 ^ 63) ≤ i) (h2 : i < 2 ^ 63) (hl : ds.length * i.toNat ≤ sizeLine) : FvS (tOp rRep ta tb) as (List.replicate i.toNat ds).flatten := fun σ H v => f_rep (ha σ H v) (hb σ H v) h1 h2 hl
/-- [x] * n -/
theorem s_rep1 (ha : FvS ta as [d]) (hb : EvS tb as (.int i)) (h1 : -(2 ^ 63) ≤ i) (h2 : i < 2 ^ 63) (hl : i.toNat ≤ sizeLine) : FvS (tOp rRep ta tb) as (List.replicate i.toNat d) :=
  (s_rep ha hb h1 h2 (by rw [List.length_singleton, Nat.one_mul]; exact hl)).is (by
    generalize i.toNat = n
    induction n with
    | zero => rfl
    | succ n ih => rw [List.replicate_succ, List.flatten_cons, ih, List.replicate_succ]; rfl)
theorem s_rep1I {x : Int} (ha : FvS ta as [.int x]) (hb : EvS tb as (.int i)) (h1 : -(2 ^ 63) ≤ i) (h2 : i < 2 ^ 63) (hl : i.toNat ≤ sizeLine) : FvS (tOp rRep ta tb) as ((List.replicate i.toNat x).map .int) := (s_rep1 ha hb h1 h2 hl).is (by rw [List.map_replicate])
theorem s_sorted (h : EvS te as (dI ns)) : FvS (tCB (rSortedI K) (tCons te tNil)) as ((srt ns).map .int) := fun σ H v => f_sorted (h σ H v)
theorem s_yes : TvS tYes as true := fun _ _ _ => t_yes
theorem s_call (ha : AvS aa as ds) (hf : f ds d) (hn : ds.length = n := by rfl) : EvS (tCall (spD n f) [] E aa) as d := fun σ H v => e_call (ha σ H v) hf hn
theorem s_fcall (ha : AvS aa as ds) (hf : g ds es) (hn : ds.length = n := by rfl) : FvS (tCall (spF n g) [] E aa) as es := fun σ H v => f_call (ha σ H v) hf hn
theorem s_callX (ha : AvS aa as ds) (hf : f ds d) (hn : ds.length = n := by rfl) : EvS (tCall (orX (spD n f) m h) [] E aa) as d := fun σ H v => e_callX (ha σ H v) hf hn
theorem s_fcallX (ha : AvS aa as ds) (hf : g ds es) (hn : ds.length = n := by rfl) : FvS (tCall (orX (spF n g) m h) [] E aa) as es := fun σ H v => f_callX (ha σ H v) hf hn
theorem e_chain {σ : L2.St} {H : Hp} {p q : Int → Int → Bool} (ha : Ev ta σ H (.int i)) (hb : Ev tb σ H (.int j)) (hc : p i j = true → Ev tc σ H (.int k)) : Ev (tChain (rI0 fun i j => .bl (p i j)) (rI0 fun i j => .bl (q i j)) ta tb tc) σ H (.bl (p i j && q j k)) := fun H1 e Q z =>
  ha H1 e _ fun v H2 Hs x hv => (hb.up x.grow) H2 x.sub _ fun w H3 Hs' y hw => ⟨i, j, hv.of_int, hw.of_int, _, rfl, by
    cases r : p i j with
    | false => rw [r] at z; exact iteF (z _ H3 Hs' (x.trans y) (.bl _))
    | true => rw [r] at z; exact iteT (((hc r).up (x.trans y).grow) H3 y.sub _ fun w' H4 Hs4 y4 hw' => ⟨j, k, hw.of_int, hw'.of_int, z _ H4 Hs4 ((x.trans y).trans y4) (.bl _)⟩)⟩
theorem s_chain {p q : Int → Int → Bool} (ha : EvS ta as (.int i)) (hb : EvS tb as (.int j)) (hc : p i j = true → EvS tc as (.int k)) : EvS (tChain (rI0 fun i j => .bl (p i j)) (rI0 fun i j => .bl (q i j)) ta tb tc) as (.bl (p i j && q j k)) := fun σ H v => e_chain (ha σ H v) (hb σ H v) fun z => hc z σ H v
theorem s_min {r : List V → Hp → VK → Prop} (hr : r = fun xs H Q => ∃ i j, xs = [V.int i, V.int j] ∧ Q (.int (if j < i then j else i)) H) (ha : EvS ta as (.int i)) (hb : EvS tb as (.int j)) : EvS (tCB r (tCons ta (tCons tb tNil))) as (.int (if j < i then j else i)) := fun σ H v H1 e Q q => by
  subst hr
  refine (a_cons (ha σ H v) (a_cons (hb σ H v) a_nil)) H1 e _ fun ws H2 Hs x hv => ?_
  cases hv with
  | cons h1 h2 =>
    cases h2 with
    | cons h2 h3 => cases h3; cases h1; cases h2; exact ⟨i, j, rfl, q _ H2 Hs x (.int _)⟩
theorem s_max {r : List V → Hp → VK → Prop} {f : Int → Int → Int} (hr : r = fun xs H Q => ∃ i j, xs = [V.int i, V.int j] ∧ Q (.int (f i j)) H) (ha : EvS ta as (.int i)) (hb : EvS tb as (.int j)) : EvS (tCB r (tCons ta (tCons tb tNil))) as (.int (f i j)) := fun σ H v H1 e Q q => by
  subst hr
  refine (a_cons (ha σ H v) (a_cons (hb σ H v) a_nil)) H1 e _ fun ws H2 Hs x hv => ?_
  cases hv with
  | cons h1 h2 =>
    cases h2 with
    | cons h2 h3 => cases h3; cases h1; cases h2; exact ⟨i, j, rfl, q _ H2 Hs x (.int _)⟩
theorem s_call1 {r : List V → Hp → VK → Prop} {f : Int → Int} (hr : r = fun xs H Q => ∃ i, xs = [V.int i] ∧ Q (.int (f i)) H) (ha : EvS ta as (.int i)) : EvS (tCB r (tCons ta tNil)) as (.int (f i)) := fun σ H v H1 e Q q => by
  subst hr
  refine (a_cons (ha σ H v) a_nil) H1 e _ fun ws H2 Hs x hv => ?_
  cases hv with
  | cons h1 h2 => cases h2; cases h1; exact ⟨i, rfl, q _ H2 Hs x (.int _)⟩
theorem s_lcL {j : Nat} (s : Nat → Option Da) (h : EvS tl as (.lst ds)) (hz : ds.length ≤ sizeLine) (hj : j ∈ vs)
    (ht : ∀ i d, ds[i]? = some d → TvS tt ((wipeA as vs).set j (.d d)) (s i).isSome) (he : ∀ i d y, ds[i]? = some d → s i = some y → EvS te ((wipeA as vs).set j (.d d)) y) :
    FvS (tLc (iList K tl) (gName j) tt te vs) as (col s ds.length) := fun σ H v =>
  f_lcL s (h σ H v) hz (fun x => wipe_set σ hj x) (fun i w d H' hd e hw => ht i d hd _ H' (((v.up e).wipe vs).setD hw j)) fun i w d y H' hd hy e hw => he i d y hd hy _ H' (((v.up e).wipe vs).setD hw j)
/-- [g for x in list]: all of them -/
theorem s_lcM {j : Nat} {α : Type} {xs : List α} (F G : α → Da) (h : EvS tl as (.lst (xs.map F))) (hz : xs.length ≤ sizeLine) (hj : j ∈ vs) (he : ∀ x, x ∈ xs → EvS te ((wipeA as vs).set j (.d (F x))) (G x)) :
    FvS (tLc (iList K tl) (gName j) tYes te vs) as (xs.map G) := by
  refine (s_lcL (fun i => (xs[i]?).map G) h (by rw [List.length_map]; exact hz) hj (fun i d hd => ?_) fun i d y hd hy => ?_).is (by rw [List.length_map, col_map])
  · rw [List.getElem?_map] at hd
    cases q : xs[i]? with
    | none => rw [q] at hd; cases hd
    | some x => exact s_yes
  · rw [List.getElem?_map] at hd
    cases q : xs[i]? with
    | none => rw [q] at hd; cases hd
    | some x => rw [q] at hd hy; cases hd; cases hy; exact he x (List.mem_of_getElem? q)
theorem s_lcR {j : Nat} (s : Nat → Option Da) (h : AvS aa as [.int k]) (hz : k ≤ 1000000) (hz0 : -1000000 ≤ k) (hj : j ∈ vs)
    (ht : ∀ i, i < k.toNat → TvS tt ((wipeA as vs).set j (.d (.int (i : Nat)))) (s i).isSome) (he : ∀ i y, i < k.toNat → s i = some y → EvS te ((wipeA as vs).set j (.d (.int (i : Nat)))) y) :
    FvS (tLc (iRng1 aa) (gName j) tt te vs) as (col s k.toNat) := fun σ H v =>
  f_lcR s (h σ H v) hz hz0 (fun x => wipe_set σ hj x) (fun i hi => ht i hi _ H ((v.wipe vs).setD (.int _) j)) fun i y hi hy => he i y hi hy _ H ((v.wipe vs).setD (.int _) j)
theorem s_lcR2 {j : Nat} {lo : Int} (s : Nat → Option Da) (h : AvS aa as [.int lo, .int k]) (hz : k ≤ 1000000 ∧ lo ≤ 1000000) (hz0 : -1000000 ≤ k ∧ -1000000 ≤ lo) (hj : j ∈ vs)
    (ht : ∀ i, i < (k - lo).toNat → TvS tt ((wipeA as vs).set j (.d (.int (lo + (i : Nat))))) (s i).isSome) (he : ∀ i y, i < (k - lo).toNat → s i = some y → EvS te ((wipeA as vs).set j (.d (.int (lo + (i : Nat))))) y) :
    FvS (tLc (iRng2 aa) (gName j) tt te vs) as (col s (k - lo).toNat) := fun σ H v =>
  f_lcR2 s (h σ H v) hz hz0 (fun x => wipe_set σ hj x) (fun i hi => ht i hi _ H ((v.wipe vs).setD (.int _) j)) fun i y hi hy => he i y hi hy _ H ((v.wipe vs).setD (.int _) j)
/-- [G for i in range(k)] -/
theorem s_lcRM {j : Nat} (G : Nat → Da) (h : AvS aa as [.int k]) (hz : k ≤ 1000000) (hz0 : -1000000 ≤ k) (hj : j ∈ vs) (he : ∀ i, i < k.toNat → EvS te ((wipeA as vs).set j (.d (.int (i : Nat)))) (G i)) :
    FvS (tLc (iRng1 aa) (gName j) tYes te vs) as ((List.range k.toNat).map G) := by
  refine (s_lcR (fun i => some (G i)) h hz hz0 hj (fun i _ => s_yes) fun i y hi hy => ?_).is (by rw [col_all])
  cases hy
  exact he i hi
theorem s_lcE {j l : Nat} (s : Nat → Option Da) (h : EvS tl as (.lst ds)) (hz : ds.length ≤ sizeLine) (hj : j ∈ vs) (hl : l ∈ vs)
    (ht : ∀ i d, ds[i]? = some d → TvS tt (((wipeA as vs).set j (.d (.int (i : Nat)))).set l (.d d)) (s i).isSome) (he : ∀ i d y, ds[i]? = some d → s i = some y → EvS te (((wipeA as vs).set j (.d (.int (i : Nat)))).set l (.d d)) y) :
    FvS (tLc (iEnum K (tCons tl tNil)) (gTup K 2 (gCons (gName j) (gCons (gName l) gNil))) tt te vs) as (col s ds.length) := fun σ H v =>
  f_lcE s (h σ H v) hz (fun x y => wipe_set2 σ hj hl x y) (fun i w d H' hd e hw => ht i d hd _ H' ((((v.up e).wipe vs).setD (.int _) j).setD hw l)) fun i w d y H' hd hy e hw => he i d y hd hy _ H' ((((v.up e).wipe vs).setD (.int _) j).setD hw l)
/-- [g for x in ints if p] -/
theorem s_lcI {j : Nat} (p : Int → Bool) (g : Int → Da) (h : EvS tl as (dI ns)) (hz : ns.length ≤ sizeLine) (hj : j ∈ vs)
    (ht : ∀ z, z ∈ ns → TvS tt ((wipeA as vs).set j (.d (.int z))) (p z)) (he : ∀ z, z ∈ ns → p z = true → EvS te ((wipeA as vs).set j (.d (.int z))) (g z)) :
    FvS (tLc (iList K tl) (gName j) tt te vs) as ((ns.filter p).map g) := fun σ H v =>
  f_lcI p g (h σ H v) hz (fun x => wipe_set σ hj x) (fun z hz => ht z hz _ H ((v.wipe vs).setD (.int _) j)) fun z hz hp => he z hz hp _ H ((v.wipe vs).setD (.int _) j)
/-- [G i x for i, x in enumerate(ints)] -/
theorem s_lcEI {j l : Nat} (G : Nat → Int → Da) (h : EvS tl as (dI ns)) (hz : ns.length ≤ sizeLine) (hj : j ∈ vs) (hl : l ∈ vs)
    (he : ∀ i z, ns[i]? = some z → EvS te (((wipeA as vs).set j (.d (.int (i : Nat)))).set l (.d (.int z))) (G i z)) :
    FvS (tLc (iEnum K (tCons tl tNil)) (gTup K 2 (gCons (gName j) (gCons (gName l) gNil))) tYes te vs) as ((List.range ns.length).map fun i => G i (ns.getD i 0)) := by
  refine (s_lcE (fun i => some (G i (ns.getD i 0))) h (by rw [List.length_map]; exact hz) hj hl (fun i d _ => s_yes) fun i d y hd hy => ?_).is ?_
  · obtain ⟨z, e, rfl⟩ := get_int hd
    cases hy
    have : ns.getD i 0 = z := by rw [List.getD_eq_getElem?_getD, e]; rfl
    rw [this]
    exact he i z e
  · rw [List.length_map, col_all]
end

/-! ### a def's run -/
/-- Hb: what stands still for the caller; H0: the heap at the entry; Hs: what stands still by now -/
structure Slots (Hs H0 H : Hp) (as : AS) (σ : L2.St) : Prop where
  len : as.length = σ.length
  dd : ∀ (i : Nat) x, as[i]? = some (.d x) → ∃ v, σ[i]? = some (some v) ∧ Dq Hs v x
  oo : ∀ (i : Nat) xs, as[i]? = some (.o xs) → ∃ p vs, σ[i]? = some (some (.ref p)) ∧ H0 p = none ∧ Hs p = none ∧ H p = some (.lst vs) ∧ DqAll Hs vs xs
  ne : ∀ (i j : Nat) xs ys p, i ≠ j → as[i]? = some (.o xs) → as[j]? = some (.o ys) → σ[i]? = some (some (.ref p)) → σ[j]? ≠ some (some (.ref p))
def Rel (Hb H0 : Hp) (as : AS) (σ : L2.St) (H : Hp) : Prop := ∃ Hs, Ext Hb H0 H Hs ∧ Slots Hs H0 H as σ
def hideS : Sl → Sl
  | .o _ => .u
  | x => x
def hide (as : AS) : AS := as.map hideS
def Flat : Da → Prop
  | .lst _ => False
  | .tup _ => False
  | .edic => False
  | .sc _ _ => False
  | _ => True
theorem flat_dq {H H' : Hp} {v : V} {d : Da} (f : Flat d) (h : Dq H v d) : Dq H' v d := by
  cases h with
  | non => exact .non
  | bl b => exact .bl b
  | int b => exact .int b
  | str b => exact .str b
  | lst _ _ => exact f.elim
  | tup _ _ => exact f.elim
  | edic _ => exact f.elim
  | sc _ => exact f.elim
  | raw v => exact .raw v
theorem flat_all {H H' : Hp} : ∀ {ds : List Da} {vs : List V}, (∀ x ∈ ds, Flat x) → DqAll H vs ds → DqAll H' vs ds
  | [], _, _, h => by cases h; exact .nil
  | d :: ds, _, f, h => by
    cases h with
    | cons h1 h2 => exact .cons (flat_dq (f d (by simp)) h1) (flat_all (fun x hx => f x (by simp [hx])) h2)
theorem flat_ints (ns : List Int) : ∀ x ∈ ns.map Da.int, Flat x := fun x hx => by
  obtain ⟨z, _, rfl⟩ := List.mem_map.mp hx
  trivial
theorem flat_bls (ns : List Bool) : ∀ x ∈ ns.map Da.bl, Flat x := fun x hx => by
  obtain ⟨z, _, rfl⟩ := List.mem_map.mp hx
  trivial
theorem flat_nil : ∀ x ∈ ([] : List Da), Flat x := fun x hx => nomatch hx
section
variable {Hb H0 H H2 Hs Hs2 : Hp} {as bs : AS} {σ : L2.St} {v : V} {d : Da} {p : Addr} {ws : List V} {xs ys : List Da} {i j : Nat}
theorem set_get {α : Type} {l : List α} {i j : Nat} {a b : α} (h : (l.set i a)[j]? = some b) : (i = j ∧ b = a) ∨ (i ≠ j ∧ l[j]? = some b) := by
  by_cases e : i = j
  · subst e
    by_cases hi : i < l.length
    · rw [List.getElem?_set_self hi] at h
      cases h
      exact .inl ⟨rfl, rfl⟩
    · rw [List.getElem?_eq_none (by simpa using hi)] at h; cases h
  · rw [List.getElem?_set_ne e] at h
    exact .inr ⟨e, h⟩
theorem lt_of_get {α : Type} {l : List α} {i : Nat} {a : α} (h : l[i]? = some a) : i < l.length := (List.getElem?_eq_some_iff.mp h).1
theorem lt_of_set {α : Type} {l : List α} {i : Nat} {a b : α} (h : (l.set i a)[i]? = some b) : i < l.length := by
  have := lt_of_get h
  rwa [List.length_set] at this
theorem Slots.run (s : Slots Hs H0 H as σ) (e : Same H H2) : Slots Hs H0 H2 as σ :=
  ⟨s.len, s.dd, fun i xs q => let ⟨p, vs, h1, h2, h3, h4, h5⟩ := s.oo i xs q; ⟨p, vs, h1, h2, h3, e _ _ h4, h5⟩, s.ne⟩
theorem Slots.grow (s : Slots Hs H0 H as σ) (x : Ext Hs H H2 Hs2) : Slots Hs2 H0 H2 as σ :=
  ⟨s.len, fun i y q => let ⟨v, h1, h2⟩ := s.dd i y q; ⟨v, h1, h2.up x.grow⟩, fun i xs q => let ⟨p, vs, h1, h2, h3, h4, h5⟩ := s.oo i xs q; ⟨p, vs, h1, h2, x.mut h3 h4, x.run _ _ h4, h5.up x.grow⟩, s.ne⟩
theorem Slots.setD (s : Slots Hs H0 H as σ) (i : Nat) (h : Dq Hs v d) : Slots Hs H0 H (as.set i (.d d)) (σ.set i (some v)) := by
  refine ⟨by rw [List.length_set, List.length_set]; exact s.len, fun j x q => ?_, fun j x q => ?_, fun j k x y p n q r z => ?_⟩
  · rcases set_get q with ⟨rfl, e⟩ | ⟨ne, q'⟩
    · cases e
      exact ⟨v, by rw [List.getElem?_set_self (by rw [← s.len]; exact lt_of_set q)], h⟩
    · rw [List.getElem?_set_ne ne]; exact s.dd j x q'
  · rcases set_get q with ⟨rfl, e⟩ | ⟨ne, q'⟩
    · cases e
    · rw [List.getElem?_set_ne ne]; exact s.oo j x q'
  · rcases set_get q with ⟨rfl, e⟩ | ⟨ne, q'⟩
    · cases e
    · rcases set_get r with ⟨rfl, e⟩ | ⟨ne2, r'⟩
      · cases e
      · rw [List.getElem?_set_ne ne] at z; rw [List.getElem?_set_ne ne2]; exact s.ne j k x y p n q' r' z
theorem Slots.setO (s : Slots Hs H0 H as σ) (i : Nat) (h0 : H0 p = none) (h1 : Hs p = none) (h2 : H p = some (.lst ws)) (h3 : DqAll Hs ws xs) (h4 : ∀ (j : Nat) zs, j ≠ i → as[j]? = some (.o zs) → σ[j]? ≠ some (some (.ref p))) :
    Slots Hs H0 H (as.set i (.o xs)) (σ.set i (some (.ref p))) := by
  refine ⟨by rw [List.length_set, List.length_set]; exact s.len, fun j x q => ?_, fun j x q => ?_, fun j k x y r n q q2 z => ?_⟩
  · rcases set_get q with ⟨rfl, e⟩ | ⟨ne, q'⟩
    · cases e
    · rw [List.getElem?_set_ne ne]; exact s.dd j x q'
  · rcases set_get q with ⟨rfl, e⟩ | ⟨ne, q'⟩
    · cases e
      exact ⟨p, ws, by rw [List.getElem?_set_self (by rw [← s.len]; exact lt_of_set q)], h0, h1, h2, h3⟩
    · rw [List.getElem?_set_ne ne]; exact s.oo j x q'
  · rcases set_get q with ⟨rfl, e⟩ | ⟨ne, q'⟩
    · rcases set_get q2 with ⟨rfl, e2⟩ | ⟨ne2, q2'⟩
      · exact absurd rfl n
      · rw [List.getElem?_set_self (by rw [← s.len]; exact lt_of_set q)] at z
        cases z
        rw [List.getElem?_set_ne ne2]
        exact h4 k y (Ne.symm ne2) q2'
    · rcases set_get q2 with ⟨rfl, e2⟩ | ⟨ne2, q2'⟩
      · rw [List.getElem?_set_ne ne] at z
        rw [List.getElem?_set_self (by rw [← s.len]; exact lt_of_set q2)]
        intro w
        cases w
        exact h4 j x (Ne.symm ne) q' z
      · rw [List.getElem?_set_ne ne] at z; rw [List.getElem?_set_ne ne2]; exact s.ne j k x y r n q' q2' z
/-- a new list into a slot -/
theorem Slots.new (s : Slots Hs H0 H as σ) (i : Nat) (e : Same H H2) (h0 : Same H0 H) (hs : Hs p = none) (n : H p = none) (h2 : H2 p = some (.lst ws)) (h3 : DqAll Hs ws xs) : Slots Hs H0 H2 (as.set i (.o xs)) (σ.set i (some (.ref p))) :=
  (s.run e).setO i (h0.free n) hs h2 h3 fun j zs _ q r => by
    obtain ⟨p', vs, g1, _, _, g4, _⟩ := s.oo j zs q
    rw [g1] at r
    cases r
    rw [n] at g4
    cases g4
/-- a list of one's own is changed -/
theorem Slots.mut (s : Slots Hs H0 H as σ) (hi : as[i]? = some (.o xs)) (hp : σ[i]? = some (some (.ref p))) (h3 : DqAll Hs ws ys) : Slots Hs H0 (upd H p (.lst ws)) (as.set i (.o ys)) σ := by
  obtain ⟨p', vs, g1, g2, g3, g4, g5⟩ := s.oo i xs hi
  rw [hp] at g1
  cases g1
  refine ⟨by rw [List.length_set]; exact s.len, fun j x q => ?_, fun j x q => ?_, fun j k x y r n q q2 z => ?_⟩
  · rcases set_get q with ⟨rfl, e⟩ | ⟨ne, q'⟩
    · cases e
    · exact s.dd j x q'
  · rcases set_get q with ⟨rfl, e⟩ | ⟨ne, q'⟩
    · cases e
      exact ⟨p, ws, hp, g2, g3, upd_same, h3⟩
    · obtain ⟨p2, vs2, k1, k2, k3, k4, k5⟩ := s.oo j x q'
      refine ⟨p2, vs2, k1, k2, k3, ?_, k5⟩
      have : p2 ≠ p := fun z => by subst z; exact s.ne i j xs x p2 ne hi q' hp k1
      rw [upd_ne this]; exact k4
  · have q' : ∃ w, as[j]? = some (.o w) := by
      rcases set_get q with ⟨rfl, e⟩ | ⟨ne, q'⟩
      · exact ⟨xs, hi⟩
      · exact ⟨x, q'⟩
    have q2' : ∃ w, as[k]? = some (.o w) := by
      rcases set_get q2 with ⟨rfl, e⟩ | ⟨ne, q'⟩
      · exact ⟨xs, hi⟩
      · exact ⟨y, q'⟩
    obtain ⟨w, q'⟩ := q'
    obtain ⟨w2, q2'⟩ := q2'
    exact s.ne j k w w2 r n q' q2' z
theorem Ext.mutO (x : Ext Hb H0 H Hs) {o : HO} (h0 : H0 p = none) (hs : Hs p = none) : Ext Hb H0 (upd H p o) Hs := ⟨same_mut x.run h0, x.grow, same_mut x.sub hs, x.new⟩
theorem Ext.rebase {Hm Hm' : Hp} (a : Ext Hb H0 Hm Hs) (b : Ext Hs H0 H Hs2) : Ext Hb H0 H Hs2 := ⟨b.run, a.grow.trans b.grow, b.sub, fun q o h => (b.new q o h).elim (fun z => a.new q o z) .inr⟩
theorem Slots.froz (s : Slots Hs H0 H as σ) (x : Ext Hb H0 H Hs) (hi : as[i]? = some (.o xs)) : ∃ Hs2, Ext Hb H0 H Hs2 ∧ Slots Hs2 H0 H (as.set i (.d (.lst xs))) σ := by
  obtain ⟨p, vs, g1, g2, g3, g4, g5⟩ := s.oo i xs hi
  refine ⟨upd Hs p (.lst vs), x.froz g2 g3 g4, ?_⟩
  have up : Same Hs (upd Hs p (.lst vs)) := same_new g3
  refine ⟨by rw [List.length_set]; exact s.len, fun j y q => ?_, fun j y q => ?_, fun j k y z r n q q2 w => ?_⟩
  · rcases set_get q with ⟨rfl, e⟩ | ⟨ne, q'⟩
    · cases e
      exact ⟨_, g1, .lst (.inl upd_same) (g5.up up)⟩
    · obtain ⟨v, h1, h2⟩ := s.dd j y q'
      exact ⟨v, h1, h2.up up⟩
  · rcases set_get q with ⟨rfl, e⟩ | ⟨ne, q'⟩
    · cases e
    · obtain ⟨p2, vs2, k1, k2, k3, k4, k5⟩ := s.oo j y q'
      have ne' : p2 ≠ p := fun z => by subst z; exact s.ne i j xs y p2 ne hi q' g1 k1
      exact ⟨p2, vs2, k1, k2, by rw [upd_ne ne']; exact k3, k4, k5.up up⟩
  · rcases set_get q with ⟨rfl, e⟩ | ⟨ne, q'⟩
    · cases e
    · rcases set_get q2 with ⟨rfl, e⟩ | ⟨ne2, q2'⟩
      · cases e
      · exact s.ne j k y z r n q' q2' w
theorem Slots.hview (s : Slots Hs H0 H as σ) : View Hs (hide as) σ := by
  refine ⟨by unfold hide; rw [List.length_map]; exact s.len, fun i a q => ?_⟩
  unfold hide at q
  rw [List.getElem?_map] at q
  cases e : as[i]? with
  | none => rw [e] at q; cases q
  | some b =>
    rw [e] at q
    have hl : i < σ.length := by rw [← s.len]; exact lt_of_get e
    cases b with
    | u => cases q; exact ⟨σ[i], List.getElem?_eq_getElem hl, trivial⟩
    | o xs => cases q; exact ⟨σ[i], List.getElem?_eq_getElem hl, trivial⟩
    | d x =>
      cases q
      obtain ⟨v, h1, h2⟩ := s.dd i x e
      exact ⟨_, h1, v, rfl, h2⟩
open Classical in
theorem Slots.view (s : Slots Hs H0 H as σ) (x : Ext Hb H0 H Hs) : ∃ Hv, Ext Hb H0 H Hv ∧ View Hv as σ := by
  let P : Addr → Prop := fun p => ∃ (i : Nat) (xs : List Da), as[i]? = some (.o xs) ∧ σ[i]? = some (some (.ref p))
  have hP : ∀ p, P p → H0 p = none ∧ Hs p = none ∧ ∃ o, H p = some o := fun p ⟨i, xs, h1, h2⟩ => by
    obtain ⟨p2, vs, k1, k2, k3, k4, k5⟩ := s.oo i xs h1
    rw [h2] at k1
    cases k1
    exact ⟨k2, k3, _, k4⟩
  let Hv : Hp := fun p => if P p then H p else Hs p
  have up : Same Hs Hv := fun b o q => by
    show (if P b then H b else Hs b) = some o
    by_cases h : P b
    · rw [(hP b h).2.1] at q; cases q
    · rw [if_neg h]; exact q
  refine ⟨Hv, ⟨x.run, x.grow.trans up, fun b o q => ?_, fun b o q => ?_⟩, s.len, fun i a q => ?_⟩
  · have q : (if P b then H b else Hs b) = some o := q
    by_cases h : P b
    · rw [if_pos h] at q; exact q
    · rw [if_neg h] at q; exact x.sub b o q
  · have q : (if P b then H b else Hs b) = some o := q
    by_cases h : P b
    · exact .inr (hP b h).1
    · rw [if_neg h] at q; exact x.new b o q
  · have hl : i < σ.length := by rw [← s.len]; exact lt_of_get q
    cases a with
    | u => exact ⟨σ[i], List.getElem?_eq_getElem hl, trivial⟩
    | d y =>
      obtain ⟨v, h1, h2⟩ := s.dd i y q
      exact ⟨_, h1, v, rfl, h2.up up⟩
    | o y =>
      obtain ⟨p2, vs, k1, k2, k3, k4, k5⟩ := s.oo i y q
      refine ⟨_, k1, _, rfl, .lst (.inl ?_) (k5.up up)⟩
      show (if P p2 then H p2 else Hs p2) = _
      rw [if_pos ⟨i, y, q, k1⟩]
      exact k4
/-- less is known -/
def Le (bs as : AS) : Prop := bs.length = as.length ∧ ∀ (i : Nat) a, bs[i]? = some a → a = .u ∨ as[i]? = some a
theorem le_nil : Le [] [] := ⟨rfl, fun i a h => by simp at h⟩
theorem le_c {x : Sl} {as bs : AS} (h : Le bs as) : Le (x :: bs) (x :: as) := ⟨by simp [h.1], fun i a q => by
  cases i with
  | zero => exact .inr q
  | succ i => exact h.2 i a q⟩
theorem le_u {x : Sl} {as bs : AS} (h : Le bs as) : Le (.u :: bs) (x :: as) := ⟨by simp [h.1], fun i a q => by
  cases i with
  | zero => simp at q; exact .inl q.symm
  | succ i => exact h.2 i a q⟩
theorem Le.refl : ∀ as : AS, Le as as
  | [] => le_nil
  | _ :: as => le_c (Le.refl as)
theorem Slots.le (s : Slots Hs H0 H as σ) (h : Le bs as) : Slots Hs H0 H bs σ := by
  refine ⟨h.1.trans s.len, fun i x q => ?_, fun i x q => ?_, fun i j x y p n q r z => ?_⟩
  · rcases h.2 i _ q with e | e
    · cases e
    · exact s.dd i x e
  · rcases h.2 i _ q with e | e
    · cases e
    · exact s.oo i x e
  · rcases h.2 i _ q with e | e
    · cases e
    · rcases h.2 j _ r with e2 | e2
      · cases e2
      · exact s.ne i j x y p n e e2 z
end

/-! ### what is wanted behind a statement -/
structure AE where
  nx : AS → Prop
  rt : Sl → Prop
  bk : AS → Prop := fun _ => False
  ct : AS → Prop := fun _ => False
  rs : Addr → Prop := fun _ => False
def RelR (Hb H0 : Hp) (s : Sl) (v : V) (H : Hp) : Prop := ∃ Hs, Ext Hb H0 H Hs ∧ match s with
  | .u => True
  | .d x => Dq Hs v x
  | .o xs => ∃ p vs, v = .ref p ∧ H0 p = none ∧ Hs p = none ∧ H p = some (.lst vs) ∧ DqAll Hs vs xs
structure Meets (E : XK) (Hb H0 : Hp) (A : AE) (D : Ends) : Prop where
  nx : ∀ as σ H, A.nx as → Rel Hb H0 as σ H → D.nx σ H
  rt : ∀ s v H, A.rt s → RelR Hb H0 s v H → D.rt v H
  bk : ∀ as σ H, A.bk as → Rel Hb H0 as σ H → D.bk σ H
  ct : ∀ as σ H, A.ct as → Rel Hb H0 as σ H → D.ct σ H
  rs : ∀ C H, A.rs C → Same H0 H → E (.ref C) none H
def Holds (E : XK) (t : TS) (as : AS) (A : AE) : Prop := ∀ Hb H0 D σ H, Meets E Hb H0 A D → Rel Hb H0 as σ H → t D σ H
section
variable {E : XK} {K : PySem.W.Frag} {as : AS} {A : AE} {t u : TS} {te tl : TE} {tt : TT} {aa : TA} {d : Da} {ds xs : List Da} {b : Bool} {i j : Nat} {Hb H0 H Hs : Hp} {σ : L2.St}
theorem w_seq (h : Holds E t as { A with nx := fun a => Holds E u a A }) : Holds E (tSeq t u) as A := fun Hb H0 D σ H m r =>
  h Hb H0 _ σ H ⟨fun a σ' H' q r' => q Hb H0 D σ' H' m r', m.rt, m.bk, m.ct, m.rs⟩ r
/-- the ways behind t come together -/
theorem w_cut {bs : AS} (h : Holds E t as { A with nx := fun a => a = bs }) (k : Holds E u bs A) : Holds E (tSeq t u) as A := fun Hb H0 D σ H m r =>
  h Hb H0 _ σ H ⟨fun a σ' H' q r' => by have q : a = bs := q; subst q; exact k Hb H0 D σ' H' m r', m.rt, m.bk, m.ct, m.rs⟩ r
theorem w_cutL {bs : AS} (h : Holds E t as { A with nx := fun a => Le bs a }) (k : Holds E u bs A) : Holds E (tSeq t u) as A := fun Hb H0 D σ H m r =>
  h Hb H0 _ σ H ⟨fun a σ' H' q r' => by
    obtain ⟨Hs, x, s⟩ := r'
    exact k Hb H0 D σ' H' m ⟨Hs, x, s.le q⟩, m.rt, m.bk, m.ct, m.rs⟩ r
theorem w_next (h : A.nx as) : Holds E tNext as A := fun Hb H0 D σ H m r => m.nx _ _ _ h r
theorem w_break (h : A.bk as) : Holds E tBreak as A := fun Hb H0 D σ H m r => m.bk _ _ _ h r
theorem w_cont (h : A.ct as) : Holds E tCont as A := fun Hb H0 D σ H m r => m.ct _ _ _ h r
theorem w_if (h : TvS tt as b) (h1 : b = true → Holds E t as A) (h2 : b = false → Holds E u as A) : Holds E (tIfS tt t u) as A := fun Hb H0 D σ H m ⟨Hs, x, s⟩ => by
  obtain ⟨Hv, y, v⟩ := s.view x
  refine (h σ Hv v) H y.sub _ fun H2 e => ?_
  have r : Rel Hb H0 as σ H2 := ⟨Hs, x.step e, s.run e⟩
  cases b with
  | true => exact iteT (h1 rfl Hb H0 D σ H2 m r)
  | false => exact iteF (h2 rfl Hb H0 D σ H2 m r)
theorem w_ifF (h : TvS tt as false) (k : Holds E u as A) : Holds E (tIfS tt t u) as A := w_if h (fun z => nomatch z) fun _ => k
theorem w_ifT (h : TvS tt as true) (k : Holds E t as A) : Holds E (tIfS tt t u) as A := w_if h (fun _ => k) fun z => nomatch z
/-- i = data that is flat -/
theorem w_set (h : EvS te as d) (f : Flat d) (k : A.nx (as.set i (.d d))) : Holds E (tAsg te (gName i)) as A := fun Hb H0 D σ H m ⟨Hs, x, s⟩ => by
  obtain ⟨Hv, y, v⟩ := s.view x
  exact (h σ Hv v) H y.sub _ fun w H2 Hs2 z hw => m.nx _ _ _ k ⟨Hs, x.step z.run, (s.run z.run).setD i (flat_dq f hw)⟩
/-- i = a new list of flat things -/
theorem w_setF (h : FvS te as xs) (f : ∀ x ∈ xs, Flat x) (k : A.nx (as.set i (.o xs))) : Holds E (tAsg te (gName i)) as A := fun Hb H0 D σ H m ⟨Hs, x, s⟩ => by
  obtain ⟨Hv, y, v⟩ := s.view x
  exact (h σ Hv v) H y.sub _ fun p vs H2 Hs2 n1 n2 hp z hw => m.nx _ _ _ k ⟨Hs, x.step z.run, s.new i z.run x.run (x.sub.free n1) n1 hp (flat_all f hw)⟩
/-- i = data, the lists of one's own not looked at -/
theorem w_setH (h : EvS te (hide as) d) (k : A.nx (as.set i (.d d))) : Holds E (tAsg te (gName i)) as A := fun Hb H0 D σ H m ⟨Hs, x, s⟩ => by
  exact (h σ Hs s.hview) H x.sub _ fun w H2 Hs2 z hw => m.nx _ _ _ k ⟨Hs2, x.trans z, (s.grow z).setD i hw⟩
theorem w_setFH (h : FvS te (hide as) xs) (k : A.nx (as.set i (.o xs))) : Holds E (tAsg te (gName i)) as A := fun Hb H0 D σ H m ⟨Hs, x, s⟩ => by
  exact (h σ Hs s.hview) H x.sub _ fun p vs H2 Hs2 n1 n2 hp z hw => m.nx _ _ _ k ⟨Hs2, x.trans z, (s.grow z).setO i (x.run.free n1) n2 hp hw fun j zs _ q r => by
    obtain ⟨p', vs', g1, _, _, g4, _⟩ := s.oo j zs q
    rw [g1] at r
    cases r
    rw [n1] at g4
    cases g4⟩
theorem w_setI {z : Int} (h : EvS te as (.int z)) (k : A.nx (as.set i (.d (.int z)))) : Holds E (tAsg te (gName i)) as A := w_set h trivial k
theorem w_setB {z : Bool} (h : EvS te as (.bl z)) (k : A.nx (as.set i (.d (.bl z)))) : Holds E (tAsg te (gName i)) as A := w_set h trivial k
theorem w_setFI {ns : List Int} (h : FvS te as (ns.map .int)) (k : A.nx (as.set i (.o (ns.map .int)))) : Holds E (tAsg te (gName i)) as A := w_setF h (flat_ints ns) k
theorem w_drop (h : EvS te as d) (k : A.nx as) : Holds E (tDrop te) as A := fun Hb H0 D σ H m ⟨Hs, x, s⟩ => by
  obtain ⟨Hv, y, v⟩ := s.view x
  exact (h σ Hv v) H y.sub _ fun w H2 Hs2 z hw => m.nx _ _ _ k ⟨Hs, x.step z.run, s.run z.run⟩
theorem w_ret (h : EvS te as d) (k : A.rt (.d d)) : Holds E (tRet te) as A := fun Hb H0 D σ H m ⟨Hs, x, s⟩ => by
  obtain ⟨Hv, y, v⟩ := s.view x
  exact (h σ Hv v) H y.sub _ fun w H2 Hs2 z hw => m.rt (.d d) w H2 k ⟨Hs2, y.trans z, hw⟩
theorem w_retF (h : FvS te as xs) (k : A.rt (.o xs)) : Holds E (tRet te) as A := fun Hb H0 D σ H m ⟨Hs, x, s⟩ => by
  obtain ⟨Hv, y, v⟩ := s.view x
  exact (h σ Hv v) H y.sub _ fun p vs H2 Hs2 n1 n2 hp z hw => m.rt (.o xs) _ H2 k ⟨Hs2, y.trans z, p, vs, rfl, x.run.free n1, n2, hp, hw⟩
/-- a list of one's own is handed out -/
theorem w_retO (h : as[i]? = some (.o xs)) (k : A.rt (.o xs)) : Holds E (tRet (tVar i)) as A := fun Hb H0 D σ H m ⟨Hs, x, s⟩ => by
  obtain ⟨p, vs, h1, h2, h3, h4, h5⟩ := s.oo i xs h
  exact ⟨_, h1, m.rt (.o xs) _ H k ⟨Hs, x, p, vs, rfl, h2, h3, h4, h5⟩⟩
theorem w_le {bs : AS} (h : Holds E t bs A) (l : Le bs as) : Holds E t as A := fun Hb H0 D σ H m ⟨Hs, x, s⟩ => h Hb H0 D σ H m ⟨Hs, x, s.le l⟩
theorem w_froz (hi : as[i]? = some (.o xs)) (h : Holds E t (as.set i (.d (.lst xs))) A) : Holds E t as A := fun Hb H0 D σ H m ⟨Hs, x, s⟩ => by
  obtain ⟨Hs2, x2, s2⟩ := s.froz x hi
  exact h Hb H0 D σ H m ⟨Hs2, x2, s2⟩
/-- l.append(e) -/
theorem w_append (hi : as[i]? = some (.o xs)) (h : EvS te as d) (f : Flat d) (hz : xs.length < sizeLine) (k : A.nx (as.set i (.o (xs ++ [d])))) : Holds E (tDrop (tBM K "list" rAppend (tVar i) (tCons te tNil))) as A := fun Hb H0 D σ H m ⟨Hs, x, s⟩ => by
  obtain ⟨Hv, y, v⟩ := s.view x
  obtain ⟨p, vs, h1, h2, h3, h4, h5⟩ := s.oo i xs hi
  refine m_append h1 h4 (by rw [h5.length]; exact hz) (h σ Hv v) y.sub fun w H2 Hs2 z hw => ?_
  have h4' := z.run _ _ h4
  exact m.nx _ _ _ k ⟨Hs, (x.step z.run).mutO h2 h3, (s.run z.run).mut hi h1 (h5.append (.cons (flat_dq f hw) .nil))⟩
theorem w_appendH (hi : as[i]? = some (.o xs)) (h : EvS te (hide as) d) (hz : xs.length < sizeLine) (k : A.nx (as.set i (.o (xs ++ [d])))) : Holds E (tDrop (tBM K "list" rAppend (tVar i) (tCons te tNil))) as A := fun Hb H0 D σ H m ⟨Hs, x, s⟩ => by
  obtain ⟨p, vs, h1, h2, h3, h4, h5⟩ := s.oo i xs hi
  refine m_append h1 h4 (by rw [h5.length]; exact hz) (h σ Hs s.hview) x.sub fun w H2 Hs2 z hw => ?_
  exact m.nx _ _ _ k ⟨Hs2, (x.trans z).mutO h2 (z.mut h3 h4), (s.grow z).mut hi h1 ((h5.up z.grow).append (.cons hw .nil))⟩
/-- l.extend(a new list) -/
theorem w_extend {ys : List Da} (hi : as[i]? = some (.o xs)) (h : FvS te as ys) (f : ∀ y ∈ ys, Flat y) (hz : xs.length + ys.length ≤ sizeLine) (k : A.nx (as.set i (.o (xs ++ ys)))) : Holds E (tDrop (tBM K "list" rExtend (tVar i) (tCons te tNil))) as A := fun Hb H0 D σ H m ⟨Hs, x, s⟩ => by
  obtain ⟨Hv, y, v⟩ := s.view x
  obtain ⟨p, vs, h1, h2, h3, h4, h5⟩ := s.oo i xs hi
  refine m_extend h1 h4 (by rw [h5.length]; exact hz) (h σ Hv v) y.sub fun p2 ws H2 Hs2 n2 hp2 z hw => ?_
  exact m.nx _ _ _ k ⟨Hs, (x.step z.run).mutO h2 h3, (s.run z.run).mut hi h1 (h5.append (flat_all f hw))⟩
theorem w_extendH {ys : List Da} (hi : as[i]? = some (.o xs)) (h : FvS te (hide as) ys) (hz : xs.length + ys.length ≤ sizeLine) (k : A.nx (as.set i (.o (xs ++ ys)))) : Holds E (tDrop (tBM K "list" rExtend (tVar i) (tCons te tNil))) as A := fun Hb H0 D σ H m ⟨Hs, x, s⟩ => by
  obtain ⟨p, vs, h1, h2, h3, h4, h5⟩ := s.oo i xs hi
  refine m_extend h1 h4 (by rw [h5.length]; exact hz) (h σ Hs s.hview) x.sub fun p2 ws H2 Hs2 n2 hp2 z hw => ?_
  exact m.nx _ _ _ k ⟨Hs2, (x.trans z).mutO h2 (z.mut h3 h4), (s.grow z).mut hi h1 ((h5.up z.grow).append hw)⟩
theorem w_appendI {ns : List Int} {z : Int} (hi : as[i]? = some (.o (ns.map .int))) (h : EvS te as (.int z)) (hz : ns.length < sizeLine) (k : A.nx (as.set i (.o ((ns ++ [z]).map .int)))) : Holds E (tDrop (tBM K "list" rAppend (tVar i) (tCons te tNil))) as A :=
  w_append hi h trivial (by rw [List.length_map]; exact hz) (by rw [List.map_append] at k; exact k)
theorem w_extendI {ns ms : List Int} (hi : as[i]? = some (.o (ns.map .int))) (h : FvS te as (ms.map .int)) (hz : ns.length + ms.length ≤ sizeLine) (k : A.nx (as.set i (.o ((ns ++ ms).map .int)))) : Holds E (tDrop (tBM K "list" rExtend (tVar i) (tCons te tNil))) as A :=
  w_extend hi h (flat_ints ms) (by rw [List.length_map, List.length_map]; exact hz) (by rw [List.map_append] at k; exact k)
theorem w_nilI {ns : List Int} (e : ns = [] := by rfl) (k : A.nx (as.set i (.o (ns.map .int)))) : Holds E (tAsg (tLst tNil) (gName i)) as A := w_setFI (by subst e; exact s_lst s_anil (Nat.zero_le _)) k
theorem dq_dropLast {vs : List V} (h : DqAll Hs vs xs) : DqAll Hs vs.dropLast xs.dropLast := by
  rw [List.dropLast_eq_take, List.dropLast_eq_take, h.length]
  exact h.take _
/-- j = l.pop() -/
theorem w_pop (hi : as[i]? = some (.o xs)) (hd : xs[xs.length - 1]? = some d) (k : A.nx ((as.set i (.o xs.dropLast)).set j (.d d))) : Holds E (tAsg (tBM0 K "list" rPop (tVar i)) (gName j)) as A := fun Hb H0 D σ H m ⟨Hs, x, s⟩ => by
  obtain ⟨p, vs, h1, h2, h3, h4, h5⟩ := s.oo i xs hi
  obtain ⟨w, q1, q2⟩ := h5.get hd
  refine m_pop h1 h4 (by rw [h5.length]; exact q1) ?_
  exact m.nx _ _ _ k ⟨Hs, x.mutO h2 h3, (s.mut hi h1 (dq_dropLast h5)).setD j q2⟩
/-- l.pop(), what is taken not kept -/
theorem w_pop0 (hi : as[i]? = some (.o xs)) (hd : xs ≠ []) (k : A.nx (as.set i (.o xs.dropLast))) : Holds E (tDrop (tBM0 K "list" rPop (tVar i))) as A := fun Hb H0 D σ H m ⟨Hs, x, s⟩ => by
  obtain ⟨p, vs, h1, h2, h3, h4, h5⟩ := s.oo i xs hi
  have hl : xs.length - 1 < xs.length := by
    cases xs with
    | nil => exact absurd rfl hd
    | cons a r => simp
  obtain ⟨w, q1, q2⟩ := h5.get (List.getElem?_eq_getElem hl)
  refine m_pop h1 h4 (by rw [h5.length]; exact q1) ?_
  exact m.nx _ _ _ k ⟨Hs, x.mutO h2 h3, s.mut hi h1 (dq_dropLast h5)⟩
/-- l[e] = data -/
theorem w_store {ti : TE} {z : Int} {n : Nat} (hi : as[i]? = some (.o xs)) (h : EvS te as d) (f : Flat d) (hz : EvS ti as (.int z)) (hn : ixN xs.length z = some n) (k : A.nx (as.set i (.o (xs.set n d)))) : Holds E (tAsg te (gSub (tVar i) ti rSetL)) as A := fun Hb H0 D σ H m ⟨Hs, x, s⟩ => by
  obtain ⟨Hv, y, v⟩ := s.view x
  obtain ⟨p, vs, h1, h2, h3, h4, h5⟩ := s.oo i xs hi
  refine (h σ Hv v) H y.sub _ fun w H2 Hs2 e2 hw => ⟨_, h1, ((hz σ Hv v).up e2.grow) H2 e2.sub _ fun w' H3 Hs3 e3 hw' => ?_⟩
  refine ⟨p, vs, z, n, rfl, hw'.of_int, e3.run _ _ (e2.run _ _ h4), by rw [h5.length]; exact hn, ?_⟩
  exact m.nx _ _ _ k ⟨Hs, (x.step (e2.run.trans e3.run)).mutO h2 h3, (s.run (e2.run.trans e3.run)).mut hi h1 (h5.set n (flat_dq f hw))⟩
theorem w_storeH {ti : TE} {z : Int} {n : Nat} (hi : as[i]? = some (.o xs)) (h : EvS te (hide as) d) (hz : EvS ti (hide as) (.int z)) (hn : ixN xs.length z = some n) (k : A.nx (as.set i (.o (xs.set n d)))) : Holds E (tAsg te (gSub (tVar i) ti rSetL)) as A := fun Hb H0 D σ H m ⟨Hs, x, s⟩ => by
  obtain ⟨p, vs, h1, h2, h3, h4, h5⟩ := s.oo i xs hi
  refine (h σ Hs s.hview) H x.sub _ fun w H2 Hs2 e2 hw => ⟨_, h1, ((hz σ Hs s.hview).up e2.grow) H2 e2.sub _ fun w' H3 Hs3 e3 hw' => ?_⟩
  have e := e2.trans e3
  refine ⟨p, vs, z, n, rfl, hw'.of_int, e.run _ _ h4, by rw [h5.length]; exact hn, ?_⟩
  exact m.nx _ _ _ k ⟨Hs3, (x.trans e).mutO h2 (e.mut h3 h4), (s.grow e).mut hi h1 ((h5.up e.grow).set n (hw.up e3.grow))⟩
/-- i += e -/
theorem w_aug {f : Int → Int → Int} {y z : Int} (hi : as[i]? = some (.d (.int y))) (h : EvS te as (.int z)) (k : A.nx (as.set i (.d (.int (f y z))))) : Holds E (tAug i te (ipI f)) as A := fun Hb H0 D σ H m ⟨Hs, x, s⟩ => by
  obtain ⟨Hv, y', v⟩ := s.view x
  obtain ⟨w, h1, h2⟩ := s.dd i _ hi
  cases h2
  exact ⟨_, h1, (h σ Hv v) H y'.sub _ fun w H2 Hs2 e2 hw => ⟨y, z, rfl, hw.of_int, m.nx _ _ _ k ⟨Hs, x.step e2.run, (s.run e2.run).setD i (.int _)⟩⟩⟩
/-- i, j = two flat things -/
theorem w_par {d1 d2 : Da} (h : AvS aa as [d1, d2]) (f1 : Flat d1) (f2 : Flat d2) (k : A.nx ((as.set i (.d d1)).set j (.d d2))) : Holds E (tPar i j aa) as A := fun Hb H0 D σ H m ⟨Hs, x, s⟩ => by
  obtain ⟨Hv, y, v⟩ := s.view x
  refine (h σ Hv v) H y.sub _ fun ws H2 Hs2 z hw => ?_
  cases hw with
  | cons q1 hw =>
    cases hw with
    | cons q2 hw =>
      cases hw
      exact ⟨_, _, rfl, m.nx _ _ _ k ⟨Hs, x.step z.run, ((s.run z.run).setD i (flat_dq f1 q1)).setD j (flat_dq f2 q2)⟩⟩
theorem w_parH {d1 d2 : Da} (h : AvS aa (hide as) [d1, d2]) (k : A.nx ((as.set i (.d d1)).set j (.d d2))) : Holds E (tPar i j aa) as A := fun Hb H0 D σ H m ⟨Hs, x, s⟩ => by
  refine (h σ Hs s.hview) H x.sub _ fun ws H2 Hs2 z hw => ?_
  cases hw with
  | cons q1 hw =>
    cases hw with
    | cons q2 hw =>
      cases hw
      exact ⟨_, _, rfl, m.nx _ _ _ k ⟨Hs2, x.trans z, ((s.grow z).setD i q1).setD j q2⟩⟩
/-- two new lists of flat things -/
theorem w_parFF {ta tb : TE} {xs ys : List Da} (ha : FvS ta as xs) (hb : FvS tb as ys) (fa : ∀ x ∈ xs, Flat x) (fb : ∀ x ∈ ys, Flat x) (ij : i ≠ j) (k : A.nx ((as.set i (.o xs)).set j (.o ys))) : Holds E (tPar i j (tCons ta (tCons tb tNil))) as A := fun Hb H0 D σ H m ⟨Hs, x, s⟩ => by
  obtain ⟨Hv, y, v⟩ := s.view x
  refine (ha σ Hv v) H y.sub _ fun p vs H2 Hs2 n1 n2 hp z hw => ?_
  refine ((hb σ Hv v).up z.grow) H2 z.sub _ fun p' vs' H3 Hs3 n1' n2' hp' z' hw' => ⟨_, _, rfl, ?_⟩
  have s2 := s.new i z.run x.run (x.sub.free n1) n1 hp (flat_all fa hw)
  exact m.nx _ _ _ k ⟨Hs, (x.step z.run).step z'.run, s2.new j z'.run (x.run.trans z.run) ((x.sub.trans z.run).free n1') n1' hp' (flat_all fb hw')⟩
/-- a new list of flat things, a flat thing -/
theorem w_parFD {ta tb : TE} {xs : List Da} (ha : FvS ta as xs) (hb : EvS tb as d) (fa : ∀ x ∈ xs, Flat x) (fb : Flat d) (k : A.nx ((as.set i (.o xs)).set j (.d d))) : Holds E (tPar i j (tCons ta (tCons tb tNil))) as A := fun Hb H0 D σ H m ⟨Hs, x, s⟩ => by
  obtain ⟨Hv, y, v⟩ := s.view x
  refine (ha σ Hv v) H y.sub _ fun p vs H2 Hs2 n1 n2 hp z hw => ?_
  refine ((hb σ Hv v).up z.grow) H2 z.sub _ fun w H3 Hs3 z' hw' => ⟨_, _, rfl, ?_⟩
  have s2 := s.new i z.run x.run (x.sub.free n1) n1 hp (flat_all fa hw)
  exact m.nx _ _ _ k ⟨Hs, (x.step z.run).step z'.run, (s2.run z'.run).setD j (flat_dq fb hw')⟩
/-- a call that is refused -/
theorem w_refused {sp : Sp} {n : Nat} {h : List Da → Addr → Prop} {C : Addr} (ha : AvS aa as ds) (hh : h ds C) (hn : ds.length = n) (k : A.rs C) : Holds E (tDrop (tCall (orX sp n h) [] E aa)) as A := fun Hb H0 D σ H m ⟨Hs, x, s⟩ => by
  obtain ⟨Hv, y, v⟩ := s.view x
  refine (ha σ Hv v) H y.sub _ fun ws H2 Hs2 z hw => .inr ⟨Hs2, ds, C, z.sub, by rw [List.append_nil]; exact hw, hn, hh, fun H3 e => m.rs C H3 k ((x.run.trans z.run).trans e)⟩
/-! ### loops -/
/-- a target takes data -/
def GvS (g : TG) (d : Da) (as bs : AS) : Prop := ∀ Hs H0 H σ v Q, Slots Hs H0 H as σ → Dq Hs v d → Same Hs H → (∀ σ', Slots Hs H0 H bs σ' → Q σ' H) → g v σ H Q
theorem g_name : GvS (gName i) d as (as.set i (.d d)) := fun _ _ _ _ _ _ s h _ q => q _ (s.setD i h)
def GsS (g : TGs) (ds : List Da) (as bs : AS) : Prop := ∀ Hs H0 H σ vs Q, Slots Hs H0 H as σ → DqAll Hs vs ds → Same Hs H → (∀ σ', Slots Hs H0 H bs σ' → Q σ' H) → g vs σ H Q
theorem gs_nil : GsS gNil [] as as := fun _ _ _ _ _ _ s h _ q => by cases h; exact ⟨rfl, q _ s⟩
theorem gs_cons {g : TG} {gs : TGs} {bs cs : AS} (h1 : GvS g d as bs) (h2 : GsS gs ds bs cs) : GsS (gCons g gs) (d :: ds) as cs := fun Hs H0 H σ vs Q s h e q => by
  cases h with
  | cons a b => exact ⟨_, _, rfl, h1 Hs H0 H σ _ _ s a e fun σ' s' => h2 Hs H0 H σ' _ _ s' b e q⟩
theorem g_tup {gs : TGs} {bs : AS} {n : Nat} (h : GsS gs ds as bs) (hn : ds.length = n) : GvS (gTup K n gs) (.tup ds) as bs := fun Hs H0 H σ v Q s hv e q => by
  obtain ⟨a, xs, rfl, r, dq⟩ := hv.of_tup
  exact ⟨a, xs, rfl, .inl (rd_mono e r), by rw [dq.length]; exact hn, h Hs H0 H σ xs Q s dq e q⟩
theorem Meets.base {D : Ends} (m : Meets E Hb H0 A D) (x : Ext Hb H0 H Hs) : Meets E Hs H0 A D :=
  ⟨fun as σ H' q ⟨Hs2, x2, s2⟩ => m.nx as σ H' q ⟨Hs2, Ext.rebase (Hm' := H) x x2, s2⟩, fun s v H' q ⟨Hs2, x2, s2⟩ => m.rt s v H' q ⟨Hs2, Ext.rebase (Hm' := H) x x2, s2⟩,
   fun as σ H' q ⟨Hs2, x2, s2⟩ => m.bk as σ H' q ⟨Hs2, Ext.rebase (Hm' := H) x x2, s2⟩, fun as σ H' q ⟨Hs2, x2, s2⟩ => m.ct as σ H' q ⟨Hs2, Ext.rebase (Hm' := H) x x2, s2⟩, m.rs⟩
theorem Ext.self (x : Ext Hb H0 H Hs) : Ext Hs H0 H Hs := ⟨x.run, Same.refl _, x.sub, fun _ _ q => .inl q⟩
/-- for .. in list -/
theorem w_forL {g : TG} {tb : TS} (I : Nat → AS → Prop) (hl : EvS tl (hide as) (.lst ds)) (h0 : I 0 as)
    (hs : ∀ i x a, ds[i]? = some x → I i a → ∃ a', GvS g x a a' ∧ Holds E tb a' { A with nx := I (i + 1), ct := I (i + 1), bk := A.nx }) (hd : ∀ a, I ds.length a → A.nx a) : Holds E (tFor (iList K tl) g tb) as A := fun Hb H0 D σ H m ⟨Hs, x, s⟩ => by
  refine (hl σ Hs s.hview) H x.sub _ fun v H2 Hs2 z hv => ?_
  obtain ⟨a, xs, rfl, r, dq⟩ := hv.of_lst
  refine ⟨a, rfl, ⟨xs, .inl (rd_mono z.sub r)⟩, ?_⟩
  have x2 : Ext Hb H0 H2 Hs2 := x.trans z
  have m2 := m.base x2
  refine for_it (walk_list (K := K) (a := a) (xs := xs)) (fun i σ H => ∃ a, I i a ∧ Rel Hs2 H0 a σ H) ⟨as, h0, Hs2, x2.self, s.grow z⟩ (fun i σ H _ p => ?_) (fun i w σ H H' hi p y => ?_) fun σ H p => ?_
  · obtain ⟨a, _, Hs3, x3, _⟩ := p
    exact .inl (rd_mono (x3.grow.trans x3.sub) r)
  · obtain ⟨a, ia, Hs3, x3, s3⟩ := p
    obtain ⟨rfl, hw⟩ := y
    obtain ⟨d, hd', hq⟩ := dq.get' hw
    obtain ⟨a', ga, ha⟩ := hs i d a hd' ia
    exact ga Hs3 H0 H' σ w _ s3 (hq.up x3.grow) x3.sub fun σ' s' => ha Hs2 H0 _ σ' H' ⟨fun a σ H q r => ⟨a, q, r⟩, m2.rt, m2.nx, fun a σ H q r => ⟨a, q, r⟩, m2.rs⟩ ⟨Hs3, x3, s'⟩
  · obtain ⟨a, ia, rl⟩ := p
    rw [dq.length] at ia
    exact m2.nx a σ H (hd a ia) rl
/-- for i, x in enumerate(list) -/
theorem w_forE {l : Nat} {tb : TS} (I : Nat → AS → Prop) (hl : EvS tl (hide as) (.lst ds)) (h0 : I 0 as)
    (hs : ∀ i x a, ds[i]? = some x → I i a → Holds E tb ((a.set j (.d (.int (i : Nat)))).set l (.d x)) { A with nx := I (i + 1), ct := I (i + 1), bk := A.nx }) (hd : ∀ a, I ds.length a → A.nx a) : Holds E (tFor (iEnum K (tCons tl tNil)) (gTup K 2 (gCons (gName j) (gCons (gName l) gNil))) tb) as A := fun Hb H0 D σ H m ⟨Hs, x, s⟩ => by
  refine (hl σ Hs s.hview) H x.sub _ fun v H2 Hs2 z hv => ?_
  obtain ⟨a, xs, rfl, r, dq⟩ := hv.of_lst
  refine ⟨a, xs, rfl, .inl (rd_mono z.sub r), ?_⟩
  have x2 : Ext Hb H0 H2 Hs2 := x.trans z
  have m2 := m.base x2
  refine for_it (walk_enum (K := K) (a := a) (xs := xs)) (fun i σ H => ∃ a, I i a ∧ Rel Hs2 H0 a σ H) ⟨as, h0, Hs2, x2.self, s.grow z⟩ (fun i σ H _ p => ?_) (fun i w σ H H' hi p y => ?_) fun σ H p => ?_
  · obtain ⟨a, _, Hs3, x3, _⟩ := p
    exact .inl (rd_mono (x3.grow.trans x3.sub) r)
  · obtain ⟨a, ia, Hs3, x3, s3⟩ := p
    obtain ⟨T, x1, y1, rfl, nT, rfl, e1, e2⟩ := y
    cases e1
    obtain ⟨d, hd', hq⟩ := dq.get' e2
    have sT : Same H (upd H T (.tup [.int (i : Nat), y1])) := same_new nT
    refine ⟨T, _, rfl, .inl (.inl upd_same), rfl, _, _, rfl, _, _, rfl, rfl, ?_⟩
    exact hs i d a hd' ia Hs2 H0 _ _ _ ⟨fun a σ H q r => ⟨a, q, r⟩, m2.rt, m2.nx, fun a σ H q r => ⟨a, q, r⟩, m2.rs⟩ ⟨Hs3, x3.step sT, ((s3.run sT).setD j (.int _)).setD l (hq.up x3.grow)⟩
  · obtain ⟨a, ia, rl⟩ := p
    rw [dq.length] at ia
    exact m2.nx a σ H (hd a ia) rl
/-- for .. in a tuple -/
theorem w_forT {g : TG} {tb : TS} (I : Nat → AS → Prop) (hl : EvS tl (hide as) (.tup ds)) (h0 : I 0 as)
    (hs : ∀ i x a, ds[i]? = some x → I i a → ∃ a', GvS g x a a' ∧ Holds E tb a' { A with nx := I (i + 1), ct := I (i + 1), bk := A.nx }) (hd : ∀ a, I ds.length a → A.nx a) : Holds E (tFor (iTup K tl) g tb) as A := fun Hb H0 D σ H m ⟨Hs, x, s⟩ => by
  refine (hl σ Hs s.hview) H x.sub _ fun v H2 Hs2 z hv => ?_
  obtain ⟨a, xs, rfl, r, dq⟩ := hv.of_tup
  refine ⟨a, rfl, ⟨xs, .inl (rd_mono z.sub r)⟩, ?_⟩
  have x2 : Ext Hb H0 H2 Hs2 := x.trans z
  have m2 := m.base x2
  refine for_it (walk_tup (K := K) (a := a) (xs := xs)) (fun i σ H => ∃ a, I i a ∧ Rel Hs2 H0 a σ H) ⟨as, h0, Hs2, x2.self, s.grow z⟩ (fun i σ H _ p => ?_) (fun i w σ H H' hi p y => ?_) fun σ H p => ?_
  · obtain ⟨a, _, Hs3, x3, _⟩ := p
    exact .inl (rd_mono (x3.grow.trans x3.sub) r)
  · obtain ⟨a, ia, Hs3, x3, s3⟩ := p
    obtain ⟨rfl, hw⟩ := y
    obtain ⟨d, hd', hq⟩ := dq.get' hw
    obtain ⟨a', ga, ha⟩ := hs i d a hd' ia
    exact ga Hs3 H0 H' σ w _ s3 (hq.up x3.grow) x3.sub fun σ' s' => ha Hs2 H0 _ σ' H' ⟨fun a σ H q r => ⟨a, q, r⟩, m2.rt, m2.nx, fun a σ H q r => ⟨a, q, r⟩, m2.rs⟩ ⟨Hs3, x3, s'⟩
  · obtain ⟨a, ia, rl⟩ := p
    rw [dq.length] at ia
    exact m2.nx a σ H (hd a ia) rl
/-- for j in range(k) -/
theorem w_forR {tb : TS} {k : Int} (I : Nat → AS → Prop) (hk : AvS aa as [.int k]) (z0 : -1000000 ≤ k) (z1 : k ≤ 1000000) (h0 : I 0 as)
    (hs : ∀ i a, i < k.toNat → I i a → Holds E tb (a.set j (.d (.int (i : Nat)))) { A with nx := I (i + 1), ct := I (i + 1), bk := A.nx }) (hd : ∀ a, I k.toNat a → A.nx a) : Holds E (tFor (iRng1 aa) (gName j) tb) as A := fun Hb H0 D σ H m ⟨Hs, x, s⟩ => by
  obtain ⟨Hv, y, v⟩ := s.view x
  refine (hk σ Hv v) H y.sub _ fun ws H2 Hs2 z hw => ?_
  cases hw with
  | cons q1 hw =>
    cases hw
    cases q1
    refine ⟨k, rfl, by omega, by omega, ?_⟩
    refine for_it (walk_range (lo := 0) (n := k.toNat)) (fun i σ H => ∃ a, I i a ∧ Rel Hb H0 a σ H) ⟨as, h0, Hs, x.step z.run, s.run z.run⟩ (fun i σ H _ p => trivial) (fun i w σ H H' hi p y => ?_) fun σ H p => ?_
    · obtain ⟨a, ia, Hs3, x3, s3⟩ := p
      obtain ⟨rfl, hx⟩ := y
      have e0 : w = .int (i : Nat) := by rw [hx]; show V.int (0 + ((i : Nat) : Int)) = V.int (i : Nat); rw [Int.zero_add]
      subst e0
      exact hs i a hi ia Hb H0 _ _ _ ⟨fun a σ H q r => ⟨a, q, r⟩, m.rt, m.nx, fun a σ H q r => ⟨a, q, r⟩, m.rs⟩ ⟨Hs3, x3, s3.setD j (.int _)⟩
    · obtain ⟨a, ia, rl⟩ := p
      exact m.nx a σ H (hd a ia) rl
/-- for j in range(lo, k) -/
theorem w_forR2 {tb : TS} {lo k : Int} (I : Nat → AS → Prop) (hk : AvS aa as [.int lo, .int k]) (z0 : -1000000 ≤ k ∧ -1000000 ≤ lo) (z1 : k ≤ 1000000 ∧ lo ≤ 1000000) (h0 : I 0 as)
    (hs : ∀ i a, i < (k - lo).toNat → I i a → Holds E tb (a.set j (.d (.int (lo + (i : Nat))))) { A with nx := I (i + 1), ct := I (i + 1), bk := A.nx }) (hd : ∀ a, I (k - lo).toNat a → A.nx a) : Holds E (tFor (iRng2 aa) (gName j) tb) as A := fun Hb H0 D σ H m ⟨Hs, x, s⟩ => by
  obtain ⟨Hv, y, v⟩ := s.view x
  refine (hk σ Hv v) H y.sub _ fun ws H2 Hs2 z hw => ?_
  cases hw with
  | cons q1 hw =>
    cases hw with
    | cons q2 hw =>
      cases hw
      cases q1
      cases q2
      refine ⟨lo, k, rfl, ⟨by omega, by omega, by omega, by omega⟩, ?_⟩
      refine for_it (walk_range (lo := lo) (n := (k - lo).toNat)) (fun i σ H => ∃ a, I i a ∧ Rel Hb H0 a σ H) ⟨as, h0, Hs, x.step z.run, s.run z.run⟩ (fun i σ H _ p => trivial) (fun i w σ H H' hi p y => ?_) fun σ H p => ?_
      · obtain ⟨a, ia, Hs3, x3, s3⟩ := p
        obtain ⟨rfl, hx⟩ := y
        subst hx
        exact hs i a hi ia Hb H0 _ _ _ ⟨fun a σ H q r => ⟨a, q, r⟩, m.rt, m.nx, fun a σ H q r => ⟨a, q, r⟩, m.rs⟩ ⟨Hs3, x3, s3.setD j (.int _)⟩
      · obtain ⟨a, ia, rl⟩ := p
        exact m.nx a σ H (hd a ia) rl
theorem w_while {tb : TS} (I : Nat → AS → Prop) {n : Nat} (h0 : I n as)
    (hs : ∀ n a, I n a → ∃ b, TvS tt a b ∧ (b = true → Holds E tb a { A with nx := fun a' => ∃ n', n' < n ∧ I n' a', ct := fun a' => ∃ n', n' < n ∧ I n' a', bk := A.nx }) ∧ (b = false → A.nx a)) : Holds E (tWhile tt tb) as A := fun Hb H0 D σ H m r => by
  refine ⟨fun n σ H => ∃ a, I n a ∧ Rel Hb H0 a σ H, ⟨n, as, h0, r⟩, fun n σ H ⟨a, ia, Hs, x, s⟩ => ?_⟩
  obtain ⟨b, ht, h1, h2⟩ := hs n a ia
  obtain ⟨Hv, y, v⟩ := s.view x
  refine (ht σ Hv v) H y.sub _ fun H2 e => ?_
  have r2 : Rel Hb H0 a σ H2 := ⟨Hs, x.step e, s.run e⟩
  cases b with
  | true =>
    refine iteT ⟨fun σ H => ∃ a, (∃ n', n' < n ∧ I n' a) ∧ Rel Hb H0 a σ H, fun σ' H' ⟨a', ⟨n', hn, ia'⟩, r'⟩ => ⟨n', hn, a', ia', r'⟩, ?_⟩
    exact h1 rfl Hb H0 _ σ H2 ⟨fun a σ H q r => ⟨a, q, r⟩, m.rt, m.nx, fun a σ H q r => ⟨a, q, r⟩, m.rs⟩ r2
  | false => exact iteF (m.nx a σ H2 (h2 rfl) r2)
/-! ### the start -/
theorem start_slots {Hb H : Hp} {vs : List V} {k : Nat} (h : DqAll Hb vs ds) : Slots Hb H H (ds.map Sl.d ++ List.replicate k .u) (vs.map some ++ List.replicate k none) := by
  have hl := h.length
  refine ⟨by simp [hl], fun i x q => ?_, fun i x q => ?_, fun i j x y p n q r => ?_⟩
  · rw [List.getElem?_append] at q
    split at q
    · rename_i hi
      rw [List.getElem?_map] at q
      cases e : ds[i]? with
      | none => rw [e] at q; cases q
      | some y =>
        rw [e] at q
        cases q
        obtain ⟨v, h1, h2⟩ := h.get e
        refine ⟨v, ?_, h2⟩
        rw [List.getElem?_append_left (by rw [List.length_map, hl]; rw [List.length_map] at hi; exact hi), List.getElem?_map, h1]
        rfl
    · rw [List.getElem?_replicate] at q
      split at q <;> cases q
  · exfalso
    rw [List.getElem?_append] at q
    split at q
    · rw [List.getElem?_map] at q
      cases e : ds[i]? with
      | none => rw [e] at q; cases q
      | some y => rw [e] at q; cases q
    · rw [List.getElem?_replicate] at q
      split at q <;> cases q
  · exfalso
    rw [List.getElem?_append] at q
    split at q
    · rw [List.getElem?_map] at q
      cases e : ds[i]? with
      | none => rw [e] at q; cases q
      | some y => rw [e] at q; cases q
    · rw [List.getElem?_replicate] at q
      split at q <;> cases q
def Sl.da : Sl → Option Da
  | .u => none
  | .d x => some x
  | .o xs => some (.lst xs)
/-- what is handed out is data d | a new list xs -/
def aD (d : Da) : AE := { nx := fun _ => d = .non, rt := fun s => s.da = some d }
def aF (xs : List Da) : AE := { nx := fun _ => False, rt := fun s => s = .o xs }
def aX (C : Addr) : AE := { nx := fun _ => False, rt := fun _ => False, rs := fun c => c = C }
theorem meets_D {Hb H : Hp} {Q : VK} (q : ∀ v H' Hs, Ext Hb H H' Hs → Dq Hs v d → Q v H') : Meets E Hb H (aD d) { nx := fun _ H' => Q .non H', rt := Q } := by
  refine ⟨fun as σ H' e ⟨Hs, x, _⟩ => ?_, fun s v H' e ⟨Hs, x, r⟩ => ?_, fun _ _ _ e => e.elim, fun _ _ _ e => e.elim, fun _ _ e => e.elim⟩
  · have e : d = .non := e
    subst e
    exact q _ H' Hs x .non
  · have e : s.da = some d := e
    cases s with
    | u => cases e
    | d y => cases e; exact q v H' Hs x r
    | o y =>
      cases e
      obtain ⟨p, vs, rfl, h1, h2, h3, h4⟩ := r
      exact q _ H' _ (x.froz h1 h2 h3) (.lst (.inl upd_same) (h4.up (same_new h2)))
theorem meets_F {Hb H : Hp} {Q : VK} {nx : L2.St → Hp → Prop} (q : ∀ p ws H' Hs, H p = none → Hs p = none → H' p = some (.lst ws) → Ext Hb H H' Hs → DqAll Hs ws xs → Q (.ref p) H') : Meets E Hb H (aF xs) { nx := nx, rt := Q } := by
  refine ⟨fun _ _ _ e => e.elim, fun s v H' e ⟨Hs, x, r⟩ => ?_, fun _ _ _ e => e.elim, fun _ _ _ e => e.elim, fun _ _ e => e.elim⟩
  have e : s = .o xs := e
  subst e
  obtain ⟨p, vs, rfl, h1, h2, h3, h4⟩ := r
  exact q p vs H' Hs h1 h2 h3 x h4
theorem meets_X {Hb H : Hp} {D : Ends} {C : Addr} (q : ∀ H', Same H H' → E (.ref C) none H') : Meets E Hb H (aX C) D :=
  ⟨fun _ _ _ e => e.elim, fun _ _ _ e => e.elim, fun _ _ _ e => e.elim, fun _ _ _ e => e.elim, fun c H' e s => by
    have e : c = C := e
    subst e
    exact q H' s⟩
end
section
variable {P : Program} {w : World} {K : PySem.W.Frag} {mg : Str → Option Value} {base : Heap} {CX : CXT} {x : Str} {params : Arguments} {body : List Stmt} {scope : Scope} {fa : Addr} {fd : FuncData} {N ps : List Str} {k n : Nat}
/-- the slots at the entry -/
abbrev sAt (N : List Str) (ds : List Da) : AS := ds.map Sl.d ++ List.replicate (N.length - ds.length) .u
theorem start_rel {Hb H : Hp} {vs : List V} {ds : List Da} (sb : Same Hb H) (dq : DqAll Hb vs ds) : Rel Hb H (sAt N ds) (L2.start N vs) H := by
  refine ⟨Hb, Ext.refl sb, ?_⟩
  unfold L2.start sAt
  rw [dq.length]
  exact start_slots dq
/-- a def's promise by its run: data | a new list | .. or refused -/
theorem gfD {f : List Da → Da → Prop} (F : FunD K x x params body scope [] [] fa fd) (hm : mg x = some (.ref fa))
    (hb : ∀ (kV doc pm : Value) (an : Option Addr) (cdv ct : Value) (us : List Value), us.length = ps.length → bindArgs (PySem.W.fnOf x x params body scope .none kV doc pm an cdv ct) ⟨us, []⟩ = pure (ps.zip us))
    (S : FnScope N ps scope) (hn : ps.length = n)
    (hbody : ∀ (cdv : Value) (A : Around) (outer : List Env) (s : Shared) (H : Hp) (E : XK) (ds : List Da) (d : Da), Room k (A.deeper (envOfC x scope s.heap.objs.size fa cdv)) → ds.length = n → f ds d →
      ∃ t, PSs (cxOf CX P w K mg base N x scope fa cdv A outer s H E) body t ∧ Holds E t (sAt N ds) (aD d)) : GF P w K mg base CX x (k + 1) ps (spD n f) :=
  gf_of F hm hb S (fun _ _ _ _ h => (spD_len h).trans hn.symm) fun cdv A outer s H vs Q E hr ⟨Hb, ds, d, sb, dq, hl, hf, q⟩ => by
    obtain ⟨t, ht, ho⟩ := hbody cdv A outer s H E ds d hr hl hf
    exact ⟨t, ht, ho Hb H _ _ H (meets_D q) (start_rel sb dq)⟩
theorem gfF {f : List Da → List Da → Prop} (F : FunD K x x params body scope [] [] fa fd) (hm : mg x = some (.ref fa))
    (hb : ∀ (kV doc pm : Value) (an : Option Addr) (cdv ct : Value) (us : List Value), us.length = ps.length → bindArgs (PySem.W.fnOf x x params body scope .none kV doc pm an cdv ct) ⟨us, []⟩ = pure (ps.zip us))
    (S : FnScope N ps scope) (hn : ps.length = n)
    (hbody : ∀ (cdv : Value) (A : Around) (outer : List Env) (s : Shared) (H : Hp) (E : XK) (ds xs : List Da), Room k (A.deeper (envOfC x scope s.heap.objs.size fa cdv)) → ds.length = n → f ds xs →
      ∃ t, PSs (cxOf CX P w K mg base N x scope fa cdv A outer s H E) body t ∧ Holds E t (sAt N ds) (aF xs)) : GF P w K mg base CX x (k + 1) ps (spF n f) :=
  gf_of F hm hb S (fun _ _ _ _ h => (spF_len h).trans hn.symm) fun cdv A outer s H vs Q E hr ⟨Hb, ds, d, sb, dq, hl, hf, q⟩ => by
    obtain ⟨t, ht, ho⟩ := hbody cdv A outer s H E ds d hr hl hf
    exact ⟨t, ht, ho Hb H _ _ H (meets_F q) (start_rel sb dq)⟩
theorem gfDX {f : List Da → Da → Prop} {h : List Da → Addr → Prop} (F : FunD K x x params body scope [] [] fa fd) (hm : mg x = some (.ref fa))
    (hb : ∀ (kV doc pm : Value) (an : Option Addr) (cdv ct : Value) (us : List Value), us.length = ps.length → bindArgs (PySem.W.fnOf x x params body scope .none kV doc pm an cdv ct) ⟨us, []⟩ = pure (ps.zip us))
    (S : FnScope N ps scope) (hn : ps.length = n)
    (hbody : ∀ (cdv : Value) (A : Around) (outer : List Env) (s : Shared) (H : Hp) (E : XK) (ds : List Da), Room k (A.deeper (envOfC x scope s.heap.objs.size fa cdv)) → ds.length = n →
      ∃ t, PSs (cxOf CX P w K mg base N x scope fa cdv A outer s H E) body t ∧ (∀ d, f ds d → Holds E t (sAt N ds) (aD d)) ∧ ∀ C, h ds C → Holds E t (sAt N ds) (aX C)) : GF P w K mg base CX x (k + 1) ps (orX (spD n f) n h) :=
  gf_of F hm hb S (fun _ _ _ _ h => (orX_len spD_len h).trans hn.symm) fun cdv A outer s H vs Q E hr z => by
    rcases z with ⟨Hb, ds, d, sb, dq, hl, hf, q⟩ | ⟨Hb, ds, C, sb, dq, hl, hf, q⟩
    · obtain ⟨t, ht, ho, _⟩ := hbody cdv A outer s H E ds hr hl
      exact ⟨t, ht, ho d hf Hb H _ _ H (meets_D q) (start_rel sb dq)⟩
    · obtain ⟨t, ht, _, ho⟩ := hbody cdv A outer s H E ds hr hl
      exact ⟨t, ht, ho C hf Hb H _ _ H (meets_X q) (start_rel sb dq)⟩
theorem gfFX {f : List Da → List Da → Prop} {h : List Da → Addr → Prop} (F : FunD K x x params body scope [] [] fa fd) (hm : mg x = some (.ref fa))
    (hb : ∀ (kV doc pm : Value) (an : Option Addr) (cdv ct : Value) (us : List Value), us.length = ps.length → bindArgs (PySem.W.fnOf x x params body scope .none kV doc pm an cdv ct) ⟨us, []⟩ = pure (ps.zip us))
    (S : FnScope N ps scope) (hn : ps.length = n)
    (hbody : ∀ (cdv : Value) (A : Around) (outer : List Env) (s : Shared) (H : Hp) (E : XK) (ds : List Da), Room k (A.deeper (envOfC x scope s.heap.objs.size fa cdv)) → ds.length = n →
      ∃ t, PSs (cxOf CX P w K mg base N x scope fa cdv A outer s H E) body t ∧ (∀ d, f ds d → Holds E t (sAt N ds) (aF d)) ∧ ∀ C, h ds C → Holds E t (sAt N ds) (aX C)) : GF P w K mg base CX x (k + 1) ps (orX (spF n f) n h) :=
  gf_of F hm hb S (fun _ _ _ _ h => (orX_len spF_len h).trans hn.symm) fun cdv A outer s H vs Q E hr z => by
    rcases z with ⟨Hb, ds, d, sb, dq, hl, hf, q⟩ | ⟨Hb, ds, C, sb, dq, hl, hf, q⟩
    · obtain ⟨t, ht, ho, _⟩ := hbody cdv A outer s H E ds hr hl
      exact ⟨t, ht, ho d hf Hb H _ _ H (meets_F q) (start_rel sb dq)⟩
    · obtain ⟨t, ht, _, ho⟩ := hbody cdv A outer s H E ds hr hl
      exact ⟨t, ht, ho C hf Hb H _ _ H (meets_X q) (start_rel sb dq)⟩
end
/-! ### the end of a law -/
section
/-- what a law's def keeps at every script, from what its top leaves -/
theorem law_end {l : PySem.W.OpenLaw} {n k : Nat} {q : Program} {loose : List Str} {XP : (Str → Option Value) → Heap → Prop} {YP : World → Heap → Prop} {d : DefRec} {CX : World → CXT} {x : Str} (h1 : l.most = some n) (h2 : n ≤ sizeLine) (h3 : d.params.defaults = []) (h4 : Room k callerA)
    (G : ∀ (w : World) (mg : Str → Option Value) (fa : Addr) (h : Heap), YP w h → h.Ns mainGlobals mg → mg d.name = some (.ref fa) → ∃ (K : PySem.W.Frag) (fd : FuncData) (sp : Sp), K.In h ∧ (∀ (s : Shared) (u : Value), BindsTo s fd ⟨[u], []⟩ [(x, u)]) ∧
        (∀ (H : Hp) (a : Addr) (ns : List Int), ns.length ≤ n → (∀ z ∈ ns, Builtin.Int.intBits z ≤ 1048576) → SqL K H a (ns.map V.int) → sp [.ref a] H (fun v _ => v = .bl true) fun _ _ _ => False) ∧ ∀ b : Heap, K.In b → b.Ns mainGlobals mg → FnOk l.prog w K mg b (CX w) k fa fd [x] sp)
    (h5 : ∀ (w : World) (H : Hp) (s : Shared) (e : Value) (s' : Shared), CX w [] H s (fun _ _ _ => False) e s' → False) : PySem.W.WalkO q loose XP YP l.row.toRowW d [] (fun f vs => PySem.call f vs) :=
  Att.attach_callB h1 h3 fun w _ s mg _ fa _ _ _ _ a _ ns Gr Y _ _ _ hm ho hi hl hb hg => by
    obtain ⟨K, fd, sp, kx, bd, hs, hF⟩ := G w mg fa _ Y Gr.T.g hm
    exact law_call kx Gr.T.g Gr.T.b Gr.T.builtins Gr.T.nolimit hg ho hi (Nat.le_trans hl h2) h4 hF bd (fun H _ hS => hs H a ns hl hb hS) fun H e s' => h5 w H s e s'
/-- a script handed in -/
theorem sc_spD {K : PySem.W.Frag} {f : List Da → Da → Prop} {H : Hp} {a : Addr} {ns : List Int} {E : XK} (h : SqL K H a (ns.map V.int)) (hf : f [.sc K ns] (.bl true)) : spD 1 f [.ref a] H (fun v _ => v = .bl true) E :=
  ⟨H, [.sc K ns], .bl true, Same.refl H, .cons (.sc h) .nil, rfl, hf, fun v _ _ _ hv => hv.of_bl⟩
end
end SX

/-! SL: lists of ints in their order: <, sorted. -/
namespace SX
open PySem PySem.Spec PyProof.Rows L2
/-- the order of lists -/
def ltL : List Int → List Int → Bool
  | _, [] => false
  | [], _ :: _ => true
  | a :: as, b :: bs => if a = b then ltL as bs else decide (a < b)
theorem ltL_nil (a : List Int) : ltL a [] = false := by cases a <;> rfl
theorem ltL_cons (a b : Int) (as bs : List Int) : ltL (a :: as) (b :: bs) = if a = b then ltL as bs else decide (a < b) := rfl
theorem ltL_asym : ∀ x y : List Int, ltL x y = true → ltL y x = false
  | _, [], h => by rw [ltL_nil] at h; cases h
  | [], _ :: _, _ => rfl
  | a :: as, b :: bs, h => by
    rw [ltL_cons] at h ⊢
    by_cases e : a = b
    · subst e
      rw [if_pos rfl] at h ⊢
      exact ltL_asym as bs h
    · rw [if_neg e] at h
      have h := of_decide_eq_true h
      rw [if_neg (Ne.symm e)]
      exact decide_eq_false (by omega)
theorem ltL_tr : ∀ x y z : List Int, ltL x y = false → ltL y z = false → ltL x z = false
  | x, _, [], _, _ => ltL_nil x
  | [], [], _ :: _, _, h => by cases h
  | [], _ :: _, _, h, _ => by cases h
  | a :: as, [], c :: cs, _, h => by cases h
  | a :: as, b :: bs, c :: cs, h1, h2 => by
    rw [ltL_cons] at h1 h2 ⊢
    by_cases e : a = b
    · subst e
      rw [if_pos rfl] at h1
      by_cases e2 : a = c
      · subst e2
        rw [if_pos rfl] at h2 ⊢
        exact ltL_tr as bs cs h1 h2
      · rw [if_neg e2] at h2 ⊢; exact h2
    · rw [if_neg e] at h1
      have h1 := of_decide_eq_false h1
      by_cases e2 : b = c
      · subst e2
        rw [if_neg e]; exact decide_eq_false h1
      · rw [if_neg e2] at h2
        have h2 := of_decide_eq_false h2
        rw [if_neg (by omega)]
        exact decide_eq_false (by omega)
theorem ltL_anti : ∀ x y : List Int, ltL x y = false → ltL y x = false → x = y
  | [], [], _, _ => rfl
  | [], _ :: _, h, _ => by cases h
  | _ :: _, [], _, h => by cases h
  | a :: as, b :: bs, h1, h2 => by
    rw [ltL_cons] at h1 h2
    by_cases e : a = b
    · subst e
      rw [if_pos rfl] at h1 h2
      rw [ltL_anti as bs h1 h2]
    · rw [if_neg e] at h1
      rw [if_neg (Ne.symm e)] at h2
      have h1 := of_decide_eq_false h1
      have h2 := of_decide_eq_false h2
      omega
theorem firstLt_map (e r : Nat → Bool) (f : Bool) : ∀ l : List Nat, SeqAt.firstLt e r f (l.map Nat.succ) = SeqAt.firstLt (fun j => e (j + 1)) (fun j => r (j + 1)) f l
  | [] => rfl
  | j :: l => by
    show (if e (j + 1) = true then SeqAt.firstLt e r f (l.map Nat.succ) else r (j + 1)) = (if e (j + 1) = true then SeqAt.firstLt (fun j => e (j + 1)) (fun j => r (j + 1)) f l else r (j + 1))
    rw [firstLt_map e r f l]
theorem firstLt_ltL : ∀ as bs : List Int, SeqAt.firstLt (fun j => as.getD j 0 == bs.getD j 0) (fun j => decide (as.getD j 0 < bs.getD j 0)) (decide (as.length < bs.length)) (List.range (min as.length bs.length)) = ltL as bs
  | [], [] => rfl
  | [], b :: bs => by simp [SeqAt.firstLt, ltL]
  | a :: as, [] => by simp [SeqAt.firstLt, ltL]
  | a :: as, b :: bs => by
    have hm : min (a :: as).length (b :: bs).length = (min as.length bs.length) + 1 := by simp only [List.length_cons]; omega
    rw [hm, List.range_succ_eq_map]
    show (if ((a :: as).getD 0 0 == (b :: bs).getD 0 0) = true then SeqAt.firstLt _ _ _ ((List.range _).map Nat.succ) else decide ((a :: as).getD 0 0 < (b :: bs).getD 0 0)) = _
    rw [firstLt_map, ltL_cons]
    have hl : decide ((a :: as).length < (b :: bs).length) = decide (as.length < bs.length) := by simp
    rw [hl]
    have ih := firstLt_ltL as bs
    simp only [List.getD_cons_zero, List.getD_cons_succ, beq_iff_eq]
    by_cases e : a = b
    · subst e; simp only [if_true]; exact ih
    · rw [if_neg e, if_neg e]
theorem swo_ltL {α : Type} (k : α → List Int) : SrtO.Swo fun v u => ltL (k v) (k u) := ⟨fun x y h => ltL_asym _ _ h, fun x y z h1 h2 => ltL_tr _ _ _ h2 h1⟩
/-- a value that is a list of ints -/
def IsInts (h : Heap) (v : Value) (ns : List Int) : Prop := ∃ a its, v = .ref a ∧ h.IsList a its ∧ IntsAre its.toList ns
theorem ints_at : ∀ {vs : List Value} {ns : List Int}, IntsAre vs ns → vs.length = ns.length ∧ ∀ j (h : j < vs.length), ∃ t, vs[j] = Value.int (ns.getD j 0) t
  | _, _, .nil => ⟨rfl, fun j h => absurd h (by simp)⟩
  | _, _, .cons n t r => by
    obtain ⟨h1, h2⟩ := ints_at r
    refine ⟨by simp [h1], fun j hj => ?_⟩
    cases j with
    | zero => exact ⟨t, rfl⟩
    | succ j =>
      obtain ⟨t', e⟩ := h2 j (by simpa using hj)
      exact ⟨t', by simpa using e⟩
section
variable {prog : Program} {w : World} {A : Around} {E : Value → Shared → Prop} {s : Shared}
theorem ints_eqlt {x y : Array Value} {ns ms : List Int} (hx : IntsAre x.toList ns) (hy : IntsAre y.toList ms) :
    (∀ j (h1 : j < x.size) (h2 : j < y.size), SeqAt.EqAt A s x[j] y[j] (ns.getD j 0 == ms.getD j 0)) ∧ (∀ j (h1 : j < x.size) (h2 : j < y.size), (ns.getD j 0 == ms.getD j 0) = false → SeqAt.RcLt A s x[j] y[j] (decide (ns.getD j 0 < ms.getD j 0))) ∧
      SeqAt.firstLt (fun j => ns.getD j 0 == ms.getD j 0) (fun j => decide (ns.getD j 0 < ms.getD j 0)) (decide (x.size < y.size)) (List.range (min x.size y.size)) = ltL ns ms := by
  obtain ⟨l1, a1⟩ := ints_at hx
  obtain ⟨l2, a2⟩ := ints_at hy
  rw [Array.length_toList] at l1 l2
  refine ⟨fun j h1 h2 => ?_, fun j h1 h2 _ => ?_, ?_⟩
  · obtain ⟨t, e⟩ := a1 j (by simpa using h1)
    obtain ⟨u, e2⟩ := a2 j (by simpa using h2)
    rw [Array.getElem_toList] at e e2
    rw [e, e2]
    exact SeqAt.EqAt.int_int _ _ _ _
  · obtain ⟨t, e⟩ := a1 j (by simpa using h1)
    obtain ⟨u, e2⟩ := a2 j (by simpa using h2)
    rw [Array.getElem_toList] at e e2
    rw [e, e2]
    exact fun _ _ _ _ h => PyProof.Rows.lt_int h
  · rw [l1, l2]; exact firstLt_ltL ns ms
theorem lists_cmp {vs : List Value} {k : Value → List Int} (hu : A.units < cLine) (hp : ∀ v ∈ vs, IsInts s.heap v (k v)) : SrtO.Cmp prog w A s oneType' (fun p => p.1 ∈ vs) (SrtO.lt2 fun v u => ltL (k v) (k u)) := by
  intro p q hm hm'
  obtain ⟨a, x, e, hx, ix⟩ := hp _ hm
  obtain ⟨b, y, e', hy, iy⟩ := hp _ hm'
  show wpAny (model prog w) A (keyLt' oneType' p.1 q.1) (fun r s' => s' = s ∧ r = ltL (k p.1) (k q.1)) (fun _ _ => False) s
  generalize k p.1 = ns at ix ⊢
  generalize k q.1 = ms at iy ⊢
  rw [e, e', keyLt'_oneType, oneLt'_eq]
  simp only [if_true]
  refine wpAny_bind (wpAny_cRoomFor hu ?_)
  obtain ⟨h1, h2, h3⟩ := ints_eqlt (A := A.in1) (s := s) ix iy
  obtain ⟨o, ho, hc, _⟩ := id hx
  refine wpAny_bind (wpAny_callSpecialIfBound?_slot ⟨o, ho, hc⟩ F.slot_list_lt (SeqAt.call_list_lt hx hy h1 h2 ?_))
  rw [h3]
  exact wpAny_truthy_bool ⟨rfl, rfl⟩
theorem lists_sortable {a : Addr} {vs : List Value} {k : Value → List Int} (hu : A.units < cLine) (h2 : 2 ≤ vs.length) (hp : ∀ v ∈ vs, IsInts s.heap v (k v)) (ha : ∀ v ∈ vs, v ≠ .ref a) : SrtO.SortableO prog w A s a vs fun v u => ltL (k v) (k u) := by
  intro h' keep
  have hp' : ∀ v ∈ vs, IsInts h' v (k v) := fun v hm => by
    obtain ⟨b, x, e, ⟨o, ho, hr⟩, ix⟩ := hp v hm
    exact ⟨b, x, e, ⟨o, keep b o (fun z => ha v hm (by rw [e, z])) ho, hr⟩, ix⟩
  refine ⟨oneType', fun Q E hq => ?_, lists_cmp hu hp'⟩
  refine PySem.W.kas_kind (T := .type "list") h2 (fun v hv => ?_) (by decide +kernel) (by decide +kernel) hq
  obtain ⟨b, x, rfl, ⟨o, ho, hc, _⟩, _⟩ := hp' v hv
  exact fun A Q E s k q => wpAny_typeOf_ref (k _ _ ho) (by rw [hc]; exact q)
end
def rSortedLL (K : PySem.W.Frag) : List V → Hp → VK → Prop := fun vs H Q => ∃ (a : Addr) (xs : List V) (k : V → List Int), vs = [V.ref a] ∧ SqL K H a xs ∧ (∀ x ∈ xs, ∃ t, x = V.ref t ∧ Rd H t (.lst ((k x).map V.int))) ∧
  ∀ zs p, zs.Perm xs → zs.Pairwise (fun x y => ltL (k y) (k x) = false) → H p = none → Q (.ref p) (upd H p (.lst zs))
def rLtL (K : PySem.W.Frag) : R2 := fun x y H Q => ∃ (a b : Addr) (ns ms : List Int), x = .ref a ∧ y = .ref b ∧ SqL K H a (ns.map V.int) ∧ SqL K H b (ms.map V.int) ∧ Q (.bl (ltL ns ms)) H
section
variable {X : Cx}
theorem Vals.intsAre : ∀ {ns : List Int} {us : List Value}, Vals (ns.map V.int) us → IntsAre us ns
  | [], _, .nil => .nil
  | n :: ns, _, .cons r t => by
    obtain ⟨t', rfl⟩ := r
    exact .cons n t' (Vals.intsAre t)
theorem cr_sortedLL (hu : X.A.in1.in1.units < cLine) : CallR X (.builtin "sorted") (rSortedLL X.K) := by
  intro pins s σ H vs us Q I r h
  obtain ⟨a, xs, k, rfl, hs, hx, q⟩ := h
  obtain ⟨its, rv, hl, hz⟩ := I.list hs
  rw [Vals.ref1 r]
  obtain ⟨e1, e2⟩ := refs_back rv fun x m => by
    obtain ⟨t, e, _⟩ := hx x m
    exact ⟨t, e⟩
  have hp : ∀ v ∈ its, IsInts s.heap v (k (backV v)) := fun v hv => by
    obtain ⟨t, rfl⟩ := e2 v hv
    have hm : V.ref t ∈ xs := by rw [e1]; exact List.mem_map.mpr ⟨_, hv, rfl⟩
    obtain ⟨t', e, ht⟩ := hx _ hm
    cases e
    obtain ⟨its2, r2, hl2, _⟩ := I.list (.inl ht)
    exact ⟨t, its2.toArray, rfl, hl2.isList, Vals.intsAre r2⟩
  refine SrtO.sorted_ord (ltv := fun v u => ltL (k (backV v)) (k (backV u))) (swo_ltL _) hl.isList (by rw [← rv.length]; exact hz) (fun h2 h1 a' ha' keep => lists_sortable hu h2 (fun v hv => ?_) fun v hv => ?_) fun out h1 h2 => ?_
  · obtain ⟨b, x, e, ⟨o, ho, hr⟩, ix⟩ := hp v hv
    exact ⟨b, x, e, ⟨o, (keep b o ho).2, hr⟩, ix⟩
  · obtain ⟨b, x, e, ⟨o, ho, hr⟩, ix⟩ := hp v hv
    intro z
    rw [e] at z
    injection z with z
    exact (keep b o ho).1 z
  · have h3 : ∀ u ∈ out, ∃ a, u = Value.ref a := fun u hu => e2 u (h2.perm.mem_iff.mp hu)
    obtain ⟨ep, he'⟩ := PyProof.Rows.sortedAll_at s.heap its out.toArray
    have hb : (out.map backV).Perm xs := by rw [e1]; exact h2.perm.map backV
    refine ⟨.ref _, upd H (s.heap.objs.size + 1) (.lst (out.map backV)), I.laid (t' := s.toks) (fun _ _ => PyProof.Rows.sortedAll_old) (Nat.le_succ _) ⟨?_, out, ep, vals_back h3, he'⟩, rfl, q _ _ hb (List.pairwise_map.mpr h1) (I.hok.fresh (Nat.le_succ _))⟩
    rw [hb.length_eq]
    exact hz
theorem op_ltL (hu : X.A.units < cLine) : OpR X (compareOp .Lt) (rLtL X.K) := by
  intro pins s σ H x y v u Q I rx ry h
  obtain ⟨a, b, ns, ms, rfl, rfl, ha, hb, q⟩ := h
  cases rx
  cases ry
  obtain ⟨its, rv, hl, hz⟩ := I.list ha
  obtain ⟨its2, rv2, hl2, hz2⟩ := I.list hb
  obtain ⟨h1, h2, h3⟩ := ints_eqlt (A := X.A.in1) (s := s) (x := its.toArray) (y := its2.toArray) (by simpa using Vals.intsAre rv) (by simpa using Vals.intsAre rv2)
  have z := SeqAt.RcLt.lists hl.isList hl2.isList hu h1 h2
  rw [h3] at z
  exact z X.prog X.w X.xe (EP X pins σ Q) ⟨.bl _, H, I, rfl, q⟩
theorem kSortedLL {K : PySem.W.Frag} (h : X.K = K) (hu : X.A.in1.in1.units < cLine) : CallR X (.builtin "sorted") (rSortedLL K) := h ▸ cr_sortedLL hu
theorem kLtL {K : PySem.W.Frag} {k : Nat} (h : X.K = K) (hr : Room k X.A) : OpR X (compareOp .Lt) (rLtL K) := h ▸ op_ltL (by have := hr.un; omega)
end
def srtL (rows : List (List Int)) : List (List Int) := rows.mergeSort (fun a b => !ltL b a)
theorem srtL_perm (rows : List (List Int)) : (srtL rows).Perm rows := List.mergeSort_perm rows _
theorem srtL_pw (rows : List (List Int)) : (srtL rows).Pairwise (fun a b => ltL b a = false) := by
  have h := List.pairwise_mergeSort (le := fun a b : List Int => !ltL b a) (fun a b c h1 h2 => by
    have h1 : ltL b a = false := by simpa using h1
    have h2 : ltL c b = false := by simpa using h2
    simpa using ltL_tr c b a h2 h1) (fun a b => by
    cases h : ltL b a with
    | false => simp
    | true => simp [ltL_asym b a h]) rows
  exact h.imp fun q => by simpa using q
theorem srtL_one {a b : List (List Int)} (p : a.Perm b) (ha : a.Pairwise (fun a b => ltL b a = false)) (hb : b.Pairwise (fun a b => ltL b a = false)) : a = b :=
  List.Perm.eq_of_pairwise (le := fun a b => ltL b a = false) (fun x y _ _ h1 h2 => ltL_anti x y h2 h1) ha hb p
theorem srtL_eq {a b : List (List Int)} (h : a.Perm b) : srtL a = srtL b := srtL_one ((srtL_perm a).trans (h.trans (srtL_perm b).symm)) (srtL_pw a) (srtL_pw b)
theorem dq_uniq {H : Hp} {v : V} {a b : List Int} (h : Dq H v (dI a)) (k : Dq H v (dI b)) : a = b := by
  obtain ⟨p, rfl, r⟩ := h.of_ints
  obtain ⟨p', e, r'⟩ := k.of_ints
  cases e
  have inj : ∀ {x y : List Int}, x.map V.int = y.map V.int → x = y := fun {x y} h => List.map_inj_right (fun _ _ z => by cases z; rfl) |>.mp h
  rcases r with r | ⟨o, r⟩ <;> rcases r' with r' | ⟨o', r'⟩ <;> rw [r] at r'
  · injection r' with r'
    injection r' with r'
    exact inj r'
  · injection r' with r'
    cases r'
  · injection r' with r'
    cases r'
  · injection r' with r'
    injection r' with _ r'
    injection r' with r'
    exact inj r'
section
variable {K : PySem.W.Frag} {σ : L2.St} {H : Hp} {te : TE} {rows : List (List Int)} {as : AS}
open Classical in
noncomputable def kOf (H : Hp) (v : V) : List Int := if h : ∃ ns, Dq H v (dI ns) then h.choose else []
theorem kOf_eq {v : V} {ns : List Int} (h : Dq H v (dI ns)) : kOf H v = ns := by
  have q : ∃ ns, Dq H v (dI ns) := ⟨ns, h⟩
  unfold kOf
  rw [dif_pos q]
  exact dq_uniq q.choose_spec h
theorem dqs_k : ∀ {rows : List (List Int)} {vs : List V}, DqAll H vs (rows.map dI) → vs.map (kOf H) = rows ∧ ∀ v ∈ vs, Dq H v (dI (kOf H v))
  | [], _, h => by cases h; exact ⟨rfl, fun _ z => nomatch z⟩
  | r :: rows, _, h => by
    cases h with
    | cons h1 h2 =>
      obtain ⟨e, q⟩ := dqs_k h2
      have e1 := kOf_eq h1
      refine ⟨by rw [List.map_cons, e, e1], fun v hv => ?_⟩
      rcases List.mem_cons.mp hv with rfl | hv
      · rw [e1]; exact h1
      · exact q v hv
theorem k_dqs : ∀ {vs : List V}, (∀ v ∈ vs, Dq H v (dI (kOf H v))) → DqAll H vs ((vs.map (kOf H)).map dI)
  | [], _ => .nil
  | v :: vs, h => .cons (h v (by simp)) (k_dqs fun x hx => h x (by simp [hx]))
theorem f_sortedLL (h : Ev te σ H (.lst (rows.map dI))) : EvF (tCB (rSortedLL K) (tCons te tNil)) σ H ((srtL rows).map dI) := fun H1 e Q q =>
  h H1 e _ fun v H2 Hs x hv => by
    obtain ⟨a, xs, rfl, r, dq⟩ := hv.of_lst
    obtain ⟨ek, hk⟩ := dqs_k dq
    refine ⟨a, xs, kOf Hs, rfl, .inl (rd_mono x.sub r), fun v hv => ?_, fun zs p hp hs hn => ?_⟩
    · obtain ⟨t, e, rt⟩ := (hk v hv).of_ints
      exact ⟨t, e, rd_mono x.sub rt⟩
    · have hz : ∀ v ∈ zs, Dq Hs v (dI (kOf Hs v)) := fun v hv => hk v (hp.mem_iff.mp hv)
      have es : zs.map (kOf Hs) = srtL rows := srtL_one ((hp.map _).trans (by rw [ek]; exact (srtL_perm rows).symm)) (List.pairwise_map.mpr hs) (srtL_pw rows)
      refine q p _ _ Hs (x.run.free hn) (x.sub.free hn) upd_same (x.alloc hn) ?_
      rw [← es]
      exact k_dqs hz
theorem s_sortedLL (h : EvS te as (.lst (rows.map dI))) : FvS (tCB (rSortedLL K) (tCons te tNil)) as ((srtL rows).map dI) := fun σ H v => f_sortedLL (h σ H v)
theorem s_ltL {ta tb : TE} {ns ms : List Int} (ha : EvS ta as (dI ns)) (hb : EvS tb as (dI ms)) : EvS (tOp (rLtL K) ta tb) as (.bl (ltL ns ms)) := fun σ H v H1 e Q q =>
  two (ha σ H v) (hb σ H v) e fun v w H3 Hs x hv hw => by
    obtain ⟨a, rfl, r⟩ := hv.of_ints
    obtain ⟨b, rfl, r2⟩ := hw.of_ints
    exact ⟨a, b, ns, ms, rfl, rfl, .inl (rd_mono x.sub r), .inl (rd_mono x.sub r2), q _ H3 Hs x (.bl _)⟩
theorem s_eqLL {ta tb : TE} {ns ms : List (List Int)} (ha : EvS ta as (.lst (ns.map dI))) (hb : EvS tb as (.lst (ms.map dI))) : EvS (tOp (rEqD K) ta tb) as (.bl (decide (ns = ms))) := (s_eq ha hb (pl_dIs ns) (pl_dIs ms)).is (by rw [eqv_dIs])
theorem s_neLL {ta tb : TE} {ns ms : List (List Int)} (ha : EvS ta as (.lst (ns.map dI))) (hb : EvS tb as (.lst (ms.map dI))) : EvS (tOp (rNeD K) ta tb) as (.bl (!decide (ns = ms))) := (s_ne ha hb (pl_dIs ns) (pl_dIs ms)).is (by rw [eqv_dIs])
theorem any_eqv (xs : List (List Int)) (x : List Int) : (pyAll (xs.map dI)).any (fun z => PyData.eqv z (dI x).py) = decide (x ∈ xs) := by
  induction xs with
  | nil => rfl
  | cons y ys ih =>
    show (PyData.eqv (dI y).py (dI x).py || (pyAll (ys.map dI)).any _) = _
    rw [ih]
    have e : PyData.eqv (dI y).py (dI x).py = decide (y = x) := eqv_dI y x
    rw [e]
    by_cases h : y = x
    · subst h; simp
    · have h' : ¬ x = y := fun z => h z.symm
      simp [h, h']
theorem s_notIn {ta tb : TE} {x : List Int} {xs : List (List Int)} (ha : EvS ta as (dI x)) (hb : EvS tb as (.lst (xs.map dI))) : EvS (tOp (rNotInD K) ta tb) as (.bl (!decide (x ∈ xs))) := fun σ H v H1 e Q q =>
  two (ha σ H v) (hb σ H v) e fun v w H3 Hs y hv hw => by
    refine ⟨_, _, dq_dp 1 _ _ (pl_dI x) (hv.up y.sub), dq_dp 2 _ _ (pl_dIs xs) (hw.up y.sub), (pl_dI x).shaped (by decide), (pl_dIs xs).shaped (by decide), ?_⟩
    rw [any_eqv]
    exact q _ H3 Hs y (.bl _)
end
end SX

namespace KX
open PySem PySem.Spec PyProof.Rows L2 SX
def top (i : Nat) : Stmt := PySem.Challenge.pw_swapfalls_k01_whole_turned.main.body.getD i (.Pass ⟨0, 0, 0, 0⟩)
abbrev s_is_number : Stmt := top 5
abbrev s_is_row : Stmt := top 6
abbrev s_check_row : Stmt := top 7
abbrev s_swaps_of : Stmt := top 8
abbrev s_swaps : Stmt := top 9
abbrev s_falls : Stmt := top 10
abbrev s_is_end : Stmt := top 12
abbrev s_turned : Stmt := top 13
abbrev s_back : Stmt := top 14
abbrev s_law_number : Stmt := top 16
abbrev s_law_swaps : Stmt := top 17
abbrev s_law_row : Stmt := top 18
abbrev s_law_whole : Stmt := top 19
abbrev s_law_falls : Stmt := top 20
abbrev s_law_right : Stmt := top 21
abbrev s_law_orders : Stmt := top 22
abbrev s_law : Stmt := top 23
def d_is_number : He.DefD := ⟨("is_number", none), "is_number", "is_number", defArgs s_is_number, defBody s_is_number, defScope s_is_number, [], []⟩
def d_is_row : He.DefD := ⟨("is_row", none), "is_row", "is_row", defArgs s_is_row, defBody s_is_row, defScope s_is_row, [], []⟩
def d_check_row : He.DefD := ⟨("check_row", none), "check_row", "check_row", defArgs s_check_row, defBody s_check_row, defScope s_check_row, [], []⟩
def d_swaps_of : He.DefD := ⟨("swaps_of", none), "swaps_of", "swaps_of", defArgs s_swaps_of, defBody s_swaps_of, defScope s_swaps_of, [], []⟩
def d_swaps : He.DefD := ⟨("swaps", none), "swaps", "swaps", defArgs s_swaps, defBody s_swaps, defScope s_swaps, [], []⟩
def d_falls : He.DefD := ⟨("falls", none), "falls", "falls", defArgs s_falls, defBody s_falls, defScope s_falls, [], []⟩
def d_is_end : He.DefD := ⟨("is_end", none), "is_end", "is_end", defArgs s_is_end, defBody s_is_end, defScope s_is_end, [], []⟩
def d_turned : He.DefD := ⟨("turned", none), "turned", "turned", defArgs s_turned, defBody s_turned, defScope s_turned, [], []⟩
def d_back : He.DefD := ⟨("back", none), "back", "back", defArgs s_back, defBody s_back, defScope s_back, [], []⟩
def d_law_number : He.DefD := ⟨("_law_number", none), "_law_number", "_law_number", defArgs s_law_number, defBody s_law_number, defScope s_law_number, [], []⟩
def d_law_swaps : He.DefD := ⟨("_law_swaps", none), "_law_swaps", "_law_swaps", defArgs s_law_swaps, defBody s_law_swaps, defScope s_law_swaps, [], []⟩
def d_law_row : He.DefD := ⟨("_law_row", none), "_law_row", "_law_row", defArgs s_law_row, defBody s_law_row, defScope s_law_row, [], []⟩
def d_law_whole : He.DefD := ⟨("_law_whole", none), "_law_whole", "_law_whole", defArgs s_law_whole, defBody s_law_whole, defScope s_law_whole, [], []⟩
def d_law_falls : He.DefD := ⟨("_law_falls", none), "_law_falls", "_law_falls", defArgs s_law_falls, defBody s_law_falls, defScope s_law_falls, [], []⟩
def d_law_right : He.DefD := ⟨("_law_right", none), "_law_right", "_law_right", defArgs s_law_right, defBody s_law_right, defScope s_law_right, [], []⟩
def d_law_orders : He.DefD := ⟨("_law_orders", none), "_law_orders", "_law_orders", defArgs s_law_orders, defBody s_law_orders, defScope s_law_orders, [], []⟩
def d_law : He.DefD := ⟨("law", none), "law", "law", defArgs s_law, defBody s_law, defScope s_law, [], []⟩
def fn : List He.DefD := [d_is_number, d_is_row, d_check_row, d_swaps_of, d_swaps, d_falls, d_is_end, d_turned, d_back, d_law_number, d_law_swaps, d_law_row, d_law_whole, d_law_falls, d_law_right, d_law_orders, d_law]
def fa : List He.Fa := [.glo "FallError", .exc "FallError", .glo "BadRow", .exc "BadRow", .int "MOST" 200, .glo "is_number", .glo "is_row", .glo "check_row", .glo "swaps_of", .glo "swaps", .glo "falls", .glo "is_end", .glo "turned", .glo "back", .glo "_law_number", .glo "_law_swaps", .glo "_law_row", .glo "_law_whole", .glo "_law_falls", .glo "_law_right", .glo "_law_orders", .glo "law", .free "isinstance", .free "int", .free "bool", .free "list", .free "len", .free "all", .free "sum", .free "enumerate", .free "range", .free "sorted"]
abbrev R : PySem.W.OpenRow := PySem.W.OpenLaw.row PySem.Challenge.rw_swapfalls_k01_whole_turned
abbrev hk : PySem.W.Hook := He.hookD 5 fa fn
def ob (s : PySem.W.SharedT) : He.AlD := He.obsDG 5 fa fn (HandSHeadRun.getT s)
theorem ob_eq (s : PySem.W.SharedT) : ob s = hk.obs s.abs := He.obsDG_eq (HandSHeadRun.getT_eq s)
theorem run (w : World) : HandSHeadRun.RunEq R (PySem.W.view R.prog [23]) hk ob 3000 ["FallError", "BadRow", "MOST", "is_number", "is_row", "check_row", "swaps_of", "swaps", "falls", "is_end", "turned", "back", "_law_number", "_law_swaps", "_law_row", "_law_whole", "_law_falls", "_law_right", "_law_orders"] w := by
  intro os
  kernel_rfl
structure Txt (K : PySem.W.Frag) (mg : Str → Option Value) : Prop where
  c : He.SaysD fa fn K
  g_FallError : mg "FallError" = some (.ref (He.ga K "FallError"))
  x_FallError : PySem.W.excIn K (He.ga K "FallError") He.veBase "ValueError.__new__" = true ∧ PySem.W.keepIn K (.ref (He.ga K "FallError")) = true ∧ PySem.W.subIn K (.ref (He.ga K "FallError")) (.type "BaseException") = some true ∧ PySem.W.typeIn K (.ref (He.ga K "FallError")) = some (.type "type")
  g_BadRow : mg "BadRow" = some (.ref (He.ga K "BadRow"))
  x_BadRow : PySem.W.excIn K (He.ga K "BadRow") He.veBase "ValueError.__new__" = true ∧ PySem.W.keepIn K (.ref (He.ga K "BadRow")) = true ∧ PySem.W.subIn K (.ref (He.ga K "BadRow")) (.type "BaseException") = some true ∧ PySem.W.typeIn K (.ref (He.ga K "BadRow")) = some (.type "type")
  c_MOST : ∃ t, mg "MOST" = some (.int 200 t)
  g_is_number : mg "is_number" = some (.ref (He.ga K "is_number"))
  g_is_row : mg "is_row" = some (.ref (He.ga K "is_row"))
  g_check_row : mg "check_row" = some (.ref (He.ga K "check_row"))
  g_swaps_of : mg "swaps_of" = some (.ref (He.ga K "swaps_of"))
  g_swaps : mg "swaps" = some (.ref (He.ga K "swaps"))
  g_falls : mg "falls" = some (.ref (He.ga K "falls"))
  g_is_end : mg "is_end" = some (.ref (He.ga K "is_end"))
  g_turned : mg "turned" = some (.ref (He.ga K "turned"))
  g_back : mg "back" = some (.ref (He.ga K "back"))
  g_law_number : mg "_law_number" = some (.ref (He.ga K "_law_number"))
  g_law_swaps : mg "_law_swaps" = some (.ref (He.ga K "_law_swaps"))
  g_law_row : mg "_law_row" = some (.ref (He.ga K "_law_row"))
  g_law_whole : mg "_law_whole" = some (.ref (He.ga K "_law_whole"))
  g_law_falls : mg "_law_falls" = some (.ref (He.ga K "_law_falls"))
  g_law_right : mg "_law_right" = some (.ref (He.ga K "_law_right"))
  g_law_orders : mg "_law_orders" = some (.ref (He.ga K "_law_orders"))
  g_law : mg "law" = some (.ref (He.ga K "law"))
  f_isinstance : mg "isinstance" = none
  f_int : mg "int" = none
  f_bool : mg "bool" = none
  f_list : mg "list" = none
  f_len : mg "len" = none
  f_all : mg "all" = none
  f_sum : mg "sum" = none
  f_enumerate : mg "enumerate" = none
  f_range : mg "range" = none
  f_sorted : mg "sorted" = none
theorem txt_of {K : PySem.W.Frag} {h : Heap} {mg : Str → Option Value} (X : K.In h) (G : h.Ns mainGlobals mg) (c : He.SaysD fa fn K) : Txt K mg := ⟨c, He.glo_ok X G (c.fact 0 (f := .glo "FallError") rfl), He.exc_ok (c.fact 1 (f := .exc "FallError") rfl), He.glo_ok X G (c.fact 2 (f := .glo "BadRow") rfl), He.exc_ok (c.fact 3 (f := .exc "BadRow") rfl), He.int_ok X G (c.fact 4 (f := .int "MOST" 200) rfl), He.glo_ok X G (c.fact 5 (f := .glo "is_number") rfl), He.glo_ok X G (c.fact 6 (f := .glo "is_row") rfl), He.glo_ok X G (c.fact 7 (f := .glo "check_row") rfl), He.glo_ok X G (c.fact 8 (f := .glo "swaps_of") rfl), He.glo_ok X G (c.fact 9 (f := .glo "swaps") rfl), He.glo_ok X G (c.fact 10 (f := .glo "falls") rfl), He.glo_ok X G (c.fact 11 (f := .glo "is_end") rfl), He.glo_ok X G (c.fact 12 (f := .glo "turned") rfl), He.glo_ok X G (c.fact 13 (f := .glo "back") rfl), He.glo_ok X G (c.fact 14 (f := .glo "_law_number") rfl), He.glo_ok X G (c.fact 15 (f := .glo "_law_swaps") rfl), He.glo_ok X G (c.fact 16 (f := .glo "_law_row") rfl), He.glo_ok X G (c.fact 17 (f := .glo "_law_whole") rfl), He.glo_ok X G (c.fact 18 (f := .glo "_law_falls") rfl), He.glo_ok X G (c.fact 19 (f := .glo "_law_right") rfl), He.glo_ok X G (c.fact 20 (f := .glo "_law_orders") rfl), He.glo_ok X G (c.fact 21 (f := .glo "law") rfl), He.free_ok X G (c.fact 22 (f := .free "isinstance") rfl), He.free_ok X G (c.fact 23 (f := .free "int") rfl), He.free_ok X G (c.fact 24 (f := .free "bool") rfl), He.free_ok X G (c.fact 25 (f := .free "list") rfl), He.free_ok X G (c.fact 26 (f := .free "len") rfl), He.free_ok X G (c.fact 27 (f := .free "all") rfl), He.free_ok X G (c.fact 28 (f := .free "sum") rfl), He.free_ok X G (c.fact 29 (f := .free "enumerate") rfl), He.free_ok X G (c.fact 30 (f := .free "range") rfl), He.free_ok X G (c.fact 31 (f := .free "sorted") rfl)⟩

section
variable {P : Program} {w : World} {K : PySem.W.Frag} {mg : Str → Option Value} {base : Heap}
/-! ### is_number, is_row, check_row -/
abbrev sp_is_number : Sp := spD 1 fun ds d => ∃ x : Da, ds = [x] ∧ x.tame = true ∧ d = .bl x.isNum
abbrev N_is_number : List Str := ["thing"]
theorem sc_is_number : FnScope N_is_number ["thing"] (defScope s_is_number) := ⟨rfl, rfl, rfl, by decide +kernel, rfl, by decide +kernel, by decide +kernel⟩
theorem g_is_number (T : Txt K mg) : GF P w K mg base CX0 "is_number" 1 ["thing"] (sp_is_number) := by
  obtain ⟨fd, F⟩ := T.c.def_ 0 (d := d_is_number) rfl
  refine gf_of (N := N_is_number) F T.g_is_number (fun _ _ _ _ _ _ us hl => match us, hl with | [_], _ => rfl) sc_is_number (fun vs H Q E h => by first | exact spD_len h | exact spF_len h | exact orX_len spD_len h | exact orX_len spF_len h) (fun cdv A outer s H vs Q E hr h => ?_)
  obtain ⟨Hb, ds, d, sb, dq, _, ⟨x, rfl, tm, rfl⟩, q⟩ := h
  cases dq with
  | cons hx hn =>
    cases hn
    refine ⟨_, (PSs.nox (pss_one (ps_ret (pe_and (pe_callB (kIsi (K := K) rfl) (by rfl) T.f_isinstance (by decide +kernel) (pa_cons (pv 0) (pa_cons (pe_bltn (v := .ty "int") (by rfl) T.f_int boot_int rfl) pa_nil))) (pe_one (pe_not (pe_callB (kIsi (K := K) rfl) (by rfl) T.f_isinstance (by decide +kernel) (pa_cons (pv 0) (pa_cons (pe_bltn (v := .ty "bool") (by rfl) T.f_bool boot_bool rfl) pa_nil))))))))), ?_⟩
    refine Ev.go (d := .bl x.isNum) ?_ sb q
    exact (e_and (e_isi (e_var rfl hx) tm (kit_I tm)) fun _ => e_not (e_isi (e_var rfl hx) tm (kit_B tm))).is (by rw [isI_not_isB])
def Da.tame2 (x : Da) : Prop := x.tame = true ∧ ∀ xs, x = .lst xs → ∀ y ∈ xs, y.tame = true
def Da.isRow : Da → Bool
  | .lst xs => decide (xs.length ≤ 200) && xs.all Da.isNum
  | _ => false
abbrev sp_is_row : Sp := spD 1 fun ds d => ∃ x : Da, ds = [x] ∧ Da.tame2 x ∧ d = .bl (Da.isRow x)
abbrev N_is_row : List Str := ["thing", "one"]
theorem sc_is_row : FnScope N_is_row ["thing"] (defScope s_is_row) := ⟨rfl, rfl, rfl, by decide +kernel, rfl, by decide +kernel, by decide +kernel⟩
theorem g_is_row (T : Txt K mg) : GF P w K mg base CX0 "is_row" 2 ["thing"] (sp_is_row) := by
  obtain ⟨fd, F⟩ := T.c.def_ 1 (d := d_is_row) rfl
  refine gf_of (N := N_is_row) F T.g_is_row (fun _ _ _ _ _ _ us hl => match us, hl with | [_], _ => rfl) sc_is_row (fun vs H Q E h => by first | exact spD_len h | exact spF_len h | exact orX_len spD_len h | exact orX_len spF_len h) (fun cdv A outer s H vs Q E hr h => ?_)
  obtain ⟨Hb, ds, d, sb, dq, _, ⟨x, rfl, tm, rfl⟩, q⟩ := h
  cases dq with
  | cons hx hn =>
    cases hn
    refine ⟨_, (PSs.nox (pss_one (ps_ret (pe_and (pe_callB (kIsi (K := K) rfl) (by rfl) T.f_isinstance (by decide +kernel) (pa_cons (pv 0) (pa_cons (pe_bltn (v := .ty "list") (by rfl) T.f_list boot_list rfl) pa_nil))) (pe_and (pe_cmpR op_le (pe_callB (kLen (K := K) rfl) (by rfl) T.f_len PySem.boot_len (pa_cons (pv 0) pa_nil)) (pe_glob (v := .int 200) rfl T.c_MOST.choose_spec ⟨_, rfl⟩) (nomark _)) (pe_one (pe_callB (kAll (K := K) rfl rfl) (by rfl) T.f_all (by decide +kernel) (pa_cons (pe_lc (own := [("one", 1)]) (g := gName 1) (by rfl) sc_is_row.nd (k_list (K := K) rfl (pv 0)) (blkOk_by (own := [("one", 1)]) (N := N_is_row) (sc := defScope s_is_row) (by decide +kernel)) (fun _ _ _ _ _ => (pg_name (i := 1) sc_is_row.nd rfl (Or.inl rfl))) (fun _ _ _ _ _ => pts_nil) (fun _ _ _ _ _ => (pe_g (g_is_number T) hr pass0 (pa_cons (pv 1) pa_nil)))) pa_nil)))))))), ?_⟩
    refine Ev.go (d := .bl (Da.isRow x)) ?_ sb q
    cases x with
    | lst xs =>
      refine (e_and (b := decide (xs.length ≤ 200) && xs.all Da.isNum) (e_isi (e_var rfl hx) tm.1 (kit_L tm.1)) fun _ => ?_).is (by rfl)
      refine e_and (Ev.is (e_IB (e_len (e_var rfl hx)) e_cI) (by show Da.bl (decide ((xs.length : Int) ≤ 200)) = Da.bl (decide (xs.length ≤ 200)); congr 1; simp; omega)) fun hl => ?_
      have hl : xs.length ≤ 200 := of_decide_eq_true hl
      refine (e_all (bs := xs.map Da.isNum) (EvF.ev (EvF.is (f_lcL (fun i => (xs[i]?).map fun y => .bl y.isNum) (e_var rfl hx) (Nat.le_trans hl (by decide)) (fun _ => rfl) (fun i v d H' hd _ _ => ?_) fun i v d y H' hd hy s' hv => ?_) ?_))).is ?_
      · rw [hd]
        exact t_yes
      · rw [hd] at hy
        cases hy
        exact e_call (a_cons (e_var rfl hv) a_nil) ⟨d, rfl, tm.2 xs rfl d (List.mem_of_getElem? hd), rfl⟩
      · rw [col_map, List.map_map]
        rfl
      · rw [List.all_map]
        rfl
    | _ => exact (e_and (b := false) (e_isi (e_var rfl hx) tm.1 (kit_L tm.1)) fun z => by cases z).is rfl
abbrev sp_check_row (K : PySem.W.Frag) : Sp := orX (spD 1 fun ds d => ∃ x : Da, ds = [x] ∧ Da.tame2 x ∧ Da.isRow x = true ∧ d = .non) 1 fun ds C => ∃ x : Da, ds = [x] ∧ Da.tame2 x ∧ Da.isRow x = false ∧ C = He.ga K "BadRow"
abbrev N_check_row : List Str := ["row"]
theorem sc_check_row : FnScope N_check_row ["row"] (defScope s_check_row) := ⟨rfl, rfl, rfl, by decide +kernel, rfl, by decide +kernel, by decide +kernel⟩
theorem g_check_row (T : Txt K mg) : GF P w K mg base (L2.CX P w) "check_row" 3 ["row"] (sp_check_row K) := by
  obtain ⟨fd, F⟩ := T.c.def_ 2 (d := d_check_row) rfl
  refine gf_of (N := N_check_row) F T.g_check_row (fun _ _ _ _ _ _ us hl => match us, hl with | [_], _ => rfl) sc_check_row (fun vs H Q E h => by first | exact spD_len h | exact spF_len h | exact orX_len spD_len h | exact orX_len spF_len h) (fun cdv A outer s H vs Q E hr h => ?_)
  rcases h with h | h
  · obtain ⟨Hb, ds, d, sb, dq, _, ⟨x, rfl, tm, hr1, rfl⟩, q⟩ := h
    cases dq with
    | cons hx hn =>
      cases hn
      refine ⟨_, (pss_one (ps_if (pt_not (pt_val (pe_g (g_is_row T) hr pass0 (pa_cons (pv 0) pa_nil)))) (pss_one (ps_raise rfl (takes_of rfl rfl rfl rfl) (pmk_own PySem.F.excBase_ValueError T.x_BadRow.1 T.g_BadRow T.x_BadRow.2.1 (raises_own T.x_BadRow.2.2.1 T.x_BadRow.2.2.2) rfl))) pss_nil)), ?_⟩
      refine EvT.go (b := !(Da.isRow x)) ?_ sb fun H2 s2 => ?_
      · exact t_not (t_B (e_call (a_cons (e_var rfl hx) a_nil) ⟨x, rfl, tm, rfl⟩))
      · rw [hr1]
        exact iteF (q _ H2 Hb ((Ext.refl sb).step s2) .non)
  · obtain ⟨Hb, ds, C, sb, dq, _, ⟨x, rfl, tm, hr1, rfl⟩, q⟩ := h
    cases dq with
    | cons hx hn =>
      cases hn
      refine ⟨_, (pss_one (ps_if (pt_not (pt_val (pe_g (g_is_row T) hr pass0 (pa_cons (pv 0) pa_nil)))) (pss_one (ps_raise rfl (takes_of rfl rfl rfl rfl) (pmk_own PySem.F.excBase_ValueError T.x_BadRow.1 T.g_BadRow T.x_BadRow.2.1 (raises_own T.x_BadRow.2.2.1 T.x_BadRow.2.2.2) rfl))) pss_nil)), ?_⟩
      refine EvT.go (b := !(Da.isRow x)) ?_ sb fun H2 s2 => ?_
      · exact t_not (t_B (e_call (a_cons (e_var rfl hx) a_nil) ⟨x, rfl, tm, rfl⟩))
      · rw [hr1]
        exact iteT (q H2 s2)
/-! ### swaps_of, swaps, falls -/
theorem row_ints {ns : List Int} (h : ns.length ≤ 200) : Da.isRow (dI ns) = true := by
  show (decide ((ns.map Da.int).length ≤ 200) && (ns.map Da.int).all Da.isNum) = true
  rw [List.length_map, decide_eq_true h, List.all_map]
  simp [Da.isNum, Function.comp_def]
theorem tame_ints (ns : List Int) : Da.tame2 (dI ns) := ⟨rfl, fun xs e y hy => by
  cases e
  obtain ⟨z, _, rfl⟩ := List.mem_map.mp hy
  rfl⟩
abbrev sp_swaps_of : Sp := spD 1 fun ds d => ∃ ns : List Int, ds = [dI ns] ∧ ns.length ≤ 100000 ∧ d = .int (SF.inv ns)
theorem swaps_col (ns : List Int) : col (fun i => (ns[i]?).bind fun z => some (Da.int (SF.swAt ns i z : Int))) ns.length = (SF.swCol ns).map Da.int := by
  unfold SF.swCol
  rw [List.map_map, ← col_all]
  refine col_congr fun i hi => ?_
  simp [hi]
abbrev N_swaps_of : List Str := ["row", "at", "one", "other"]
theorem sc_swaps_of : FnScope N_swaps_of ["row"] (defScope s_swaps_of) := ⟨rfl, rfl, rfl, by decide +kernel, rfl, by decide +kernel, by decide +kernel⟩
theorem g_swaps_of (T : Txt K mg) : GF P w K mg base CX0 "swaps_of" 1 ["row"] (sp_swaps_of) := by
  obtain ⟨fd, F⟩ := T.c.def_ 3 (d := d_swaps_of) rfl
  refine gf_of (N := N_swaps_of) F T.g_swaps_of (fun _ _ _ _ _ _ us hl => match us, hl with | [_], _ => rfl) sc_swaps_of (fun vs H Q E h => by first | exact spD_len h | exact spF_len h | exact orX_len spD_len h | exact orX_len spF_len h) (fun cdv A outer s H vs Q E hr h => ?_)
  obtain ⟨Hb, ds, d, sb, dq, _, ⟨ns, rfl, hl, rfl⟩, q⟩ := h
  cases dq with
  | cons hx hn =>
    cases hn
    refine ⟨_, (PSs.nox (pss_one (ps_ret (pe_callB (kSum (K := K) rfl rfl) (by rfl) T.f_sum (by decide +kernel) (pa_cons (pe_lc (own := [("at", 1), ("one", 2)]) (g := gTup K 2 (gCons (gName 1) (gCons (gName 2) gNil))) (by rfl) sc_swaps_of.nd (k_enum (K := K) rfl T.f_enumerate (pa_cons (pv 0) pa_nil)) (blkOk_by (own := [("at", 1), ("one", 2)]) (N := N_swaps_of) (sc := defScope s_swaps_of) (by decide +kernel)) (fun _ _ _ _ _ => (pg_tup rfl (pgs_cons (pg_name (i := 1) sc_swaps_of.nd rfl (Or.inl rfl)) (pgs_cons (pg_name (i := 2) sc_swaps_of.nd rfl (Or.inr rfl)) pgs_nil)))) (fun _ _ _ _ _ => pts_nil) (fun _ _ _ _ _ => (pe_callB (kLen (K := K) rfl) (by rfl) T.f_len PySem.boot_len (pa_cons (pe_lc (own := [("other", 3)]) (g := gName 3) (by rfl) sc_swaps_of.nd (k_list (K := K) rfl (pe_slice (kSl (K := K) rfl) (pv 0) po_none (po_some (pv 1)))) (blkOk_by (own := [("other", 3)]) (N := N_swaps_of) (sc := relS _ (defScope s_swaps_of)) (by decide +kernel)) (fun _ _ _ _ _ => (pg_name (i := 3) sc_swaps_of.nd rfl (Or.inl rfl))) (fun _ _ _ _ _ => (pts_one (pt_cmpR op_gt (pv 3) (pv 2) (nomark _)))) (fun _ _ _ _ _ => (pv 3))) pa_nil)))) pa_nil))))), ?_⟩
    refine Ev.go (d := .int (SF.inv ns)) ?_ sb q
    rw [← SF.swCol_sum]
    refine e_sum (EvF.ev (EvF.is (f_lcEI (fun i z => some (.int (SF.swAt ns i z : Int))) (e_var rfl hx) (Nat.le_trans hl (by decide)) (fun _ _ => rfl) (fun i z _ => t_yes) fun i z y hz hy => ?_) (swaps_col ns)))
    cases hy
    refine (e_len (EvF.ev (f_lcI (ns := ns.take i) (fun o => decide (z < o)) (fun o => .int o) (EvF.ev (EvF.is (f_sl (e_var rfl hx) o_none (o_some (e_var rfl (.int _)))) (by rw [cut_to, List.map_take]))) (by rw [List.length_take]; exact Nat.le_trans (Nat.min_le_right _ _) (Nat.le_trans hl (by decide))) (fun _ => rfl) (fun o _ => t_test (e_IB (e_var rfl (.int _)) (e_var rfl (.int _)))) fun o _ _ => e_var rfl (.int _)))).is ?_
    rw [List.length_map]
    rfl
abbrev sp_swaps (K : PySem.W.Frag) : Sp := orX (spD 1 fun ds d => ∃ ns : List Int, ds = [dI ns] ∧ ns.length ≤ 200 ∧ d = .int (SF.inv ns)) 1 fun ds C => ∃ x : Da, ds = [x] ∧ Da.tame2 x ∧ Da.isRow x = false ∧ C = He.ga K "BadRow"
abbrev N_swaps : List Str := ["row"]
theorem sc_swaps : FnScope N_swaps ["row"] (defScope s_swaps) := ⟨rfl, rfl, rfl, by decide +kernel, rfl, by decide +kernel, by decide +kernel⟩
theorem g_swaps (T : Txt K mg) : GF P w K mg base (L2.CX P w) "swaps" 4 ["row"] (sp_swaps K) := by
  obtain ⟨fd, F⟩ := T.c.def_ 4 (d := d_swaps) rfl
  refine gf_of (N := N_swaps) F T.g_swaps (fun _ _ _ _ _ _ us hl => match us, hl with | [_], _ => rfl) sc_swaps (fun vs H Q E h => by first | exact spD_len h | exact spF_len h | exact orX_len spD_len h | exact orX_len spF_len h) (fun cdv A outer s H vs Q E hr h => ?_)
  rcases h with h | h
  · obtain ⟨Hb, ds, d, sb, dq, _, ⟨ns, rfl, hl, rfl⟩, q⟩ := h
    cases dq with
    | cons hx hn =>
      cases hn
      refine ⟨_, (pss_cons (ps_expr (pe_g (g_check_row T) hr (passes_call (takes_of rfl rfl rfl rfl) (fun _ _ _ _ z => z)) (pa_cons (pv 0) pa_nil)))
      (PSs.nox (pss_one (ps_ret (pe_g (g_swaps_of T) hr pass0 (pa_cons (pv 0) pa_nil)))))), ?_⟩
      refine Ev.go (e_callX (a_cons (e_var rfl hx) a_nil) ⟨_, rfl, tame_ints ns, row_ints hl, rfl⟩) sb fun v H2 Hs x hv => ?_
      refine Ev.go (e_call (a_cons (e_var rfl (hx.up x.grow)) a_nil) ⟨ns, rfl, by omega, rfl⟩) x.sub fun v H3 Hs3 x3 hv => ?_
      exact q v H3 Hs3 (x.trans x3) hv
  · obtain ⟨Hb, ds, C, sb, dq, hl, hf, q⟩ := h
    cases dq with
    | nil => cases hl
    | cons hx hn =>
      cases hn with
      | cons _ _ => cases hl
      | nil =>
        refine ⟨_, (pss_cons (ps_expr (pe_g (g_check_row T) hr (passes_call (takes_of rfl rfl rfl rfl) (fun _ _ _ _ z => z)) (pa_cons (pv 0) pa_nil)))
      (PSs.nox (pss_one (ps_ret (pe_g (g_swaps_of T) hr pass0 (pa_cons (pv 0) pa_nil)))))), ?_⟩
        exact ⟨_, rfl, .inr ⟨Hb, _, C, sb, .cons hx .nil, rfl, hf, q⟩⟩
abbrev sp_falls (K : PySem.W.Frag) : Sp := orX (spF 1 fun ds xs => ∃ ns : List Int, ds = [dI ns] ∧ ns.length ≤ 200 ∧ xs = (SF.falls ns).map Da.int) 1 fun ds C => ∃ x : Da, ds = [x] ∧ Da.tame2 x ∧ Da.isRow x = false ∧ C = He.ga K "BadRow"
theorem at_ints {ns : List Int} {i : Nat} (h : i < ns.length) : atI (ns.map Da.int) (i : Int) = some (.int (ns.getD i 0)) := by
  refine atI_nat ?_
  rw [List.getElem?_map, List.getElem?_eq_getElem h]
  simp [h]
theorem falls_col (ns : List Int) : col (fun i => if decide (ns.getD (i + 1) 0 < ns.getD i 0) = true then some (Da.int (1 + (i : Int))) else none) (ns.length - 1) = (SF.falls ns).map Da.int := by
  rw [SF.falls_eq]
  unfold SF.fallsC col
  rw [fm_if, List.map_map]
  apply List.map_congr_left
  intro i _
  show Da.int (1 + (i : Int)) = Da.int ((i : Int) + 1)
  rw [Int.add_comm]
abbrev N_falls : List Str := ["row", "at"]
theorem sc_falls : FnScope N_falls ["row"] (defScope s_falls) := ⟨rfl, rfl, rfl, by decide +kernel, rfl, by decide +kernel, by decide +kernel⟩
theorem g_falls (T : Txt K mg) : GF P w K mg base (L2.CX P w) "falls" 4 ["row"] (sp_falls K) := by
  obtain ⟨fd, F⟩ := T.c.def_ 5 (d := d_falls) rfl
  refine gf_of (N := N_falls) F T.g_falls (fun _ _ _ _ _ _ us hl => match us, hl with | [_], _ => rfl) sc_falls (fun vs H Q E h => by first | exact spD_len h | exact spF_len h | exact orX_len spD_len h | exact orX_len spF_len h) (fun cdv A outer s H vs Q E hr h => ?_)
  rcases h with h | h
  · obtain ⟨Hb, ds, d, sb, dq, _, ⟨ns, rfl, hl, rfl⟩, q⟩ := h
    cases dq with
    | cons hx hn =>
      cases hn
      refine ⟨_, (pss_cons (ps_expr (pe_g (g_check_row T) hr (passes_call (takes_of rfl rfl rfl rfl) (fun _ _ _ _ z => z)) (pa_cons (pv 0) pa_nil)))
      (PSs.nox (pss_one (ps_ret (pe_lc (own := [("at", 1)]) (g := gName 1) (by rfl) sc_falls.nd (pi_range2 (by rfl) T.f_range (pa_cons pe_int (pa_cons (pe_callB (kLen (K := K) rfl) (by rfl) T.f_len PySem.boot_len (pa_cons (pv 0) pa_nil)) pa_nil))) (blkOk_by (own := [("at", 1)]) (N := N_falls) (sc := defScope s_falls) (by decide +kernel)) (fun _ _ _ _ _ => (pg_name (i := 1) sc_falls.nd rfl (Or.inl rfl))) (fun _ _ _ _ _ => (pts_one (pt_cmpR op_gt (pe_ix (kIx (K := K) rfl) (pv 0) (pe_op op_sub (pv 1) pe_int) (fun _ _ => rfl)) (pe_ix (kIx (K := K) rfl) (pv 0) (pv 1) (fun _ _ => rfl)) (nomark _)))) (fun _ _ _ _ _ => (pv 1))))))), ?_⟩
      refine Ev.go (e_callX (a_cons (e_var rfl hx) a_nil) ⟨_, rfl, tame_ints ns, row_ints hl, rfl⟩) sb fun v H2 Hs x hv => ?_
      have hx := hx.up x.grow
      refine EvF.go (ds := (SF.falls ns).map Da.int) (EvF.is (f_lcR2 (fun i => if decide (ns.getD (i + 1) 0 < ns.getD i 0) = true then some (Da.int (1 + (i : Int))) else none) (a_cons e_cI (a_cons (e_lenI (e_var rfl hx)) a_nil)) (by omega) (by omega) (fun _ => rfl) (fun i hi => ?_) fun i y hi hy => ?_) ?_) x.sub fun p vs H3 Hs3 n1 n2 hp x3 hv => ?_
      · have i1 : i + 1 < ns.length := by omega
        refine (t_test (e_IB (e_ixL (e_var rfl hx) ((e_II (e_var rfl (.int _)) e_cI).is (e := .int (i : Int)) (by show Da.int (1 + (i : Int) - 1) = _; congr 1; omega)) (at_ints (by omega))) (e_ixL (e_var rfl hx) ((e_var rfl (.int _)).is (e := .int ((i + 1 : Nat) : Int)) (by show Da.int (1 + (i : Int)) = _; congr 1; omega)) (at_ints i1)))).is ?_
        cases hq : decide (ns.getD (i + 1) 0 < ns.getD i 0) <;> simp [hq]
      · split at hy
        · cases hy
          exact e_var rfl (.int _)
        · cases hy
      · rw [show ((ns.length : Int) - 1).toNat = ns.length - 1 by omega]
        exact falls_col ns
      · exact q p vs H3 Hs3 (x.run.free n1) n2 hp (x.trans x3) hv
  · obtain ⟨Hb, ds, C, sb, dq, hl, hf, q⟩ := h
    cases dq with
    | nil => cases hl
    | cons hx hn =>
      cases hn with
      | cons _ _ => cases hl
      | nil =>
        refine ⟨_, (pss_cons (ps_expr (pe_g (g_check_row T) hr (passes_call (takes_of rfl rfl rfl rfl) (fun _ _ _ _ z => z)) (pa_cons (pv 0) pa_nil)))
      (PSs.nox (pss_one (ps_ret (pe_lc (own := [("at", 1)]) (g := gName 1) (by rfl) sc_falls.nd (pi_range2 (by rfl) T.f_range (pa_cons pe_int (pa_cons (pe_callB (kLen (K := K) rfl) (by rfl) T.f_len PySem.boot_len (pa_cons (pv 0) pa_nil)) pa_nil))) (blkOk_by (own := [("at", 1)]) (N := N_falls) (sc := defScope s_falls) (by decide +kernel)) (fun _ _ _ _ _ => (pg_name (i := 1) sc_falls.nd rfl (Or.inl rfl))) (fun _ _ _ _ _ => (pts_one (pt_cmpR op_gt (pe_ix (kIx (K := K) rfl) (pv 0) (pe_op op_sub (pv 1) pe_int) (fun _ _ => rfl)) (pe_ix (kIx (K := K) rfl) (pv 0) (pv 1) (fun _ _ => rfl)) (nomark _)))) (fun _ _ _ _ _ => (pv 1))))))), ?_⟩
        exact ⟨_, rfl, .inr ⟨Hb, _, C, sb, .cons hx .nil, rfl, hf, q⟩⟩

end
section
variable {P : Program} {w : World} {K : PySem.W.Frag} {mg : Str → Option Value} {base : Heap}
/-! ### is_end, turned, back -/
abbrev sp_is_end : Sp := spD 3 fun ds d => ∃ a b c : Int, ds = [.int a, .int b, .int c] ∧ d = .bl (SF.isEnd a b c)
abbrev N_is_end : List Str := ["one", "other", "last"]
theorem sc_is_end : FnScope N_is_end ["one", "other", "last"] (defScope s_is_end) := ⟨rfl, rfl, rfl, by decide +kernel, rfl, by decide +kernel, by decide +kernel⟩
theorem g_is_end (T : Txt K mg) : GF P w K mg base CX0 "is_end" 1 ["one", "other", "last"] (sp_is_end) := by
  obtain ⟨fd, F⟩ := T.c.def_ 6 (d := d_is_end) rfl
  refine gfD (N := N_is_end) F T.g_is_end (fun _ _ _ _ _ _ us hl => match us, hl with | [_, _, _], _ => rfl) sc_is_end rfl (fun cdv A outer s H E ds d hr hl hf => ?_)
  refine ⟨_, (PSs.nox (pss_one (ps_ret (pe_cmpR (kEq (K := K) rfl hr) (pe_cmpR op_le (pv 0) (pv 1) (nomark _)) (pe_cmpR op_le (pv 2) (pv 1) (nomark _)) (nomark _))))), ?_⟩
  obtain ⟨a, b, c, rfl, rfl⟩ := hf
  exact w_ret (s_eqB (s_IB (s_v rfl) (s_v rfl)) (s_IB (s_v rfl) (s_v rfl))) rfl
theorem last_ints {ns : List Int} (h : ns ≠ []) : atI (ns.map Da.int) (-1) = some (.int (ns.getLast?.getD 0)) := by
  have e : ns.map Da.int = ns.dropLast.map Da.int ++ [.int (ns.getLast h)] := by
    rw [← List.map_singleton, ← List.map_append, List.dropLast_concat_getLast]
  rw [e, atI_last, List.getLast?_eq_getLast h]
  rfl
theorem drop_at {α : Type} {l : List α} {i : Nat} {x : α} (h : l[i]? = some x) : l.drop i = x :: l.drop (i + 1) := by
  obtain ⟨hi, rfl⟩ := List.getElem?_eq_some_iff.mp h
  exact List.drop_eq_getElem_cons hi
theorem rotGo_yes {p : Int → Bool} {acc xs : List Int} {x : Int} (h : p x = true) : SF.rotGo p acc (x :: xs) = (x :: acc) ++ SF.rotGo p [] xs := by rw [SF.rotGo, if_pos h]
theorem rotGo_no {p : Int → Bool} {acc xs : List Int} {x : Int} (h : p x = false) : SF.rotGo p acc (x :: xs) = SF.rotGo p (acc ++ [x]) xs := by rw [SF.rotGo, if_neg (by rw [h]; exact Bool.false_ne_true)]
theorem turned_take {ns : List Int} {i : Nat} {x : Int} (h : ns[i]? = some x) : SF.turned (ns.take (i + 1)) = SF.rot x (SF.turned (ns.take i)) ++ [x] := by
  rw [List.take_add_one, h]
  exact SF.turned_snoc _ _
theorem szl {a b : Nat} (h : a ≤ b) (k : b ≤ sizeLine := by decide) : a ≤ sizeLine := Nat.le_trans h k
theorem szlt {a b : Nat} (h : a ≤ b) (k : b < sizeLine := by decide) : a < sizeLine := Nat.lt_of_le_of_lt h k
abbrev badRow (K : PySem.W.Frag) : List Da → Addr → Prop := fun ds C => ∃ x : Da, ds = [x] ∧ Da.tame2 x ∧ Da.isRow x = false ∧ C = He.ga K "BadRow"
abbrev sp_turned (K : PySem.W.Frag) : Sp := orX (spF 1 fun ds xs => ∃ ns : List Int, ds = [dI ns] ∧ ns.length ≤ 200 ∧ xs = (SF.turned ns).map Da.int) 1 (badRow K)
abbrev N_turned : List Str := ["row", "found", "number", "parts", "part", "one"]
theorem sc_turned : FnScope N_turned ["row"] (defScope s_turned) := ⟨rfl, rfl, rfl, by decide +kernel, rfl, by decide +kernel, by decide +kernel⟩
theorem g_turned (T : Txt K mg) : GF P w K mg base (L2.CX P w) "turned" 4 ["row"] (sp_turned K) := by
  obtain ⟨fd, F⟩ := T.c.def_ 7 (d := d_turned) rfl
  refine gfFX (N := N_turned) F T.g_turned (fun _ _ _ _ _ _ us hl => match us, hl with | [_], _ => rfl) sc_turned rfl (fun cdv A outer s H E ds hr hl => ?_)
  refine ⟨_, (pss_cons (ps_expr (pe_g (g_check_row T) hr (passes_call (takes_of rfl rfl rfl rfl) (fun _ _ _ _ z => z)) (pa_cons (pv 0) pa_nil)))
      (PSs.nox (pss_cons (ps_set (i := 1) sc_turned.nd rfl (Or.inl rfl) (pe_lst pa_nil))
      (pss_cons (ps_for PassesOwn.never rfl (k_list (K := K) rfl (pv 0)) (pg_name (i := 2) sc_turned.nd rfl (Or.inl rfl))
      (pss_cons (ps_set (i := 3) sc_turned.nd rfl (Or.inl rfl) (pe_lst pa_nil))
      (pss_cons (ps_set (i := 4) sc_turned.nd rfl (Or.inl rfl) (pe_lst pa_nil))
      (pss_cons (ps_for PassesOwn.never rfl (k_list (K := K) rfl (pv 1)) (pg_name (i := 5) sc_turned.nd rfl (Or.inl rfl))
      (pss_cons (ps_expr (k_bm (K := K) rfl PySem.F.plainAttrs_list PySem.F.slot_list_append PySem.F.type_list_append mt_append (pv 4) (pa_cons (pv 5) pa_nil)))
      (pss_one (ps_if (pt_val (pe_g (g_is_end T) hr pass0 (pa_cons (pv 5) (pa_cons (pv 2) (pa_cons (pe_ix (kIx (K := K) rfl) (pv 1) (pe_un un_neg pe_int) (fun _ _ => rfl)) pa_nil))))) (pss_cons (ps_expr (k_bm (K := K) rfl PySem.F.plainAttrs_list PySem.F.slot_list_extend PySem.F.type_list_extend mt_extend (pv 3) (pa_cons (pe_op op_catR (pe_slice (kSl (K := K) rfl) (pv 4) (po_some (pe_un un_neg pe_int)) po_none) (pe_slice (kSl (K := K) rfl) (pv 4) po_none (po_some (pe_un un_neg pe_int)))) pa_nil)))
      (pss_one (ps_set (i := 4) sc_turned.nd rfl (Or.inl rfl) (pe_lst pa_nil)))) pss_nil))))
      (pss_one (ps_set (i := 1) sc_turned.nd rfl (Or.inl rfl) (pe_op op_catR (pv 3) (pe_lst (pa_cons (pv 2) pa_nil)))))))))
      (pss_one (ps_ret (pv 1))))))), fun d hf => ?_, fun C hf => ?_⟩
  · obtain ⟨ns, rfl, hl, rfl⟩ := hf
    refine w_seq (w_drop (s_callX (s_acons (s_v rfl) s_anil) ⟨_, rfl, tame_ints ns, row_ints hl, rfl⟩) ?_)
    refine w_seq (w_nilI (k := ?_))
    -- for number in row
    refine w_seq (w_forL (fun i a => ∃ s2 s3 s4 s5, a = [.d (dI ns), .o ((SF.turned (ns.take i)).map .int), s2, s3, s4, s5]) (s_v rfl) ⟨_, _, _, _, rfl⟩ (fun i x a hx ia => ⟨_, g_name, ?_⟩) fun a ia => ?_)
    · obtain ⟨s2, s3, s4, s5, rfl⟩ := ia
      obtain ⟨z, hz, rfl⟩ := get_int hx
      have tt := turned_take hz
      have hlt : (SF.turned (ns.take i)).length ≤ 200 := by rw [SF.turned_len, List.length_take]; omega
      generalize SF.turned (ns.take i) = fs at tt hlt
      refine w_seq (w_nilI (k := ?_))
      refine w_seq (w_nilI (k := ?_))
      -- for one in found
      refine w_seq (w_froz (i := 1) rfl (w_forL (fun j a => ∃ (acc don : List Int) (s5 : Sl), a = [.d (dI ns), .d (dI fs), .d (.int z), .o (don.map .int), .o (acc.map .int), s5] ∧
          don ++ SF.rotGo (fun y => SF.isEnd y z (fs.getLast?.getD 0)) acc (fs.drop j) = SF.rot z fs ∧ don.length + acc.length ≤ j) (s_v rfl) ⟨[], [], _, rfl, rfl, Nat.le_refl _⟩ (fun j x a hx ia => ⟨_, g_name, ?_⟩) fun a ia => ?_))
      · obtain ⟨acc, don, s5, rfl, inv, len⟩ := ia
        obtain ⟨o, ho, rfl⟩ := get_int hx
        have hj := lt_of_get ho
        have fne : fs ≠ [] := by intro e; subst e; simp at hj
        rw [drop_at ho] at inv
        refine w_seq (w_appendI (i := 4) rfl (s_v rfl) (szlt (b := 200) (by omega)) ?_)
        refine w_if (s_B (s_call (s_acons (s_v rfl) (s_acons (s_v rfl) (s_acons (s_ixL (s_v rfl) (s_neg s_cI) (last_ints fne)) s_anil))) ⟨_, _, _, rfl, rfl⟩)) (fun hq => ?_) fun hq => ?_
        · rw [rotGo_yes (p := fun y => SF.isEnd y z (fs.getLast?.getD 0)) hq] at inv
          refine w_seq (w_extendI (i := 3) (ms := o :: acc) rfl ((s_catI (s_slI (s_vo rfl) (s_osome (s_neg s_cI)) s_onone).ev (s_slI (s_vo rfl) s_onone (s_osome (s_neg s_cI))).ev ?_).is ?_) ?_ ?_)
          · rw [cut_last, cut_init]; exact szl (b := 402) (by simp; omega)
          · rw [cut_last, cut_init]; simp
          · exact szl (b := 402) (by simp; omega)
          · refine w_nilI (k := ⟨[], don ++ (o :: acc), _, rfl, by rw [List.append_assoc]; exact inv, by simp; omega⟩)
        · rw [rotGo_no (p := fun y => SF.isEnd y z (fs.getLast?.getD 0)) hq] at inv
          exact w_next ⟨acc ++ [o], don, _, rfl, inv, by simp; omega⟩
      · obtain ⟨acc, don, s5, rfl, inv, len⟩ := ia
        rw [List.length_map, List.drop_length] at inv
        have inv : don = SF.rot z fs := by rw [← inv]; simp [SF.rotGo]
        subst inv
        refine w_setFI (ns := SF.rot z fs ++ [z]) (s_catI (s_vo rfl) (s_one (s_v rfl)).ev (szl (b := 201) (by simp [SF.rot_len]; omega))) ⟨_, _, _, _, by rw [tt]; rfl⟩
    · obtain ⟨s2, s3, s4, s5, rfl⟩ := ia
      rw [List.length_map, List.take_length]
      exact w_retO rfl rfl
  · obtain ⟨x, rfl, h⟩ := hf
    exact w_seq (w_refused (s_acons (s_v rfl) s_anil) ⟨x, rfl, h⟩ rfl rfl)
theorem back_step {w : List Int} {x : Int} : SF.back (w ++ [x]) = SF.back (SF.unrot x w) ++ [x] := SF.back_snoc w x
theorem unGo_yes {p : Int → Bool} {acc xs : List Int} {x : Int} (h : p x = true) (ha : acc ≠ []) : SF.unGo p acc (x :: xs) = (acc.drop 1 ++ acc.take 1) ++ SF.unGo p [x] xs := by
  rw [SF.unGo]
  simp [h, ha]
theorem unGo_no {p : Int → Bool} {acc xs : List Int} {x : Int} (h : p x = false ∨ acc = []) : SF.unGo p acc (x :: xs) = SF.unGo p (acc ++ [x]) xs := by
  rw [SF.unGo]
  rcases h with h | h <;> simp [h]
theorem head_ints {ns : List Int} (h : ns ≠ []) : atI (ns.map Da.int) 0 = some (.int (ns.head?.getD 0)) := by
  cases ns with
  | nil => exact absurd rfl h
  | cons a r => exact atI_nat (j := 0) rfl
abbrev sp_back (K : PySem.W.Frag) : Sp := orX (spF 1 fun ds xs => ∃ ns : List Int, ds = [dI ns] ∧ ns.length ≤ 200 ∧ xs = (SF.back ns).map Da.int) 1 (badRow K)
abbrev N_back : List Str := ["row", "found", "taken", "number", "parts", "part", "one"]
theorem sc_back : FnScope N_back ["row"] (defScope s_back) := ⟨rfl, rfl, rfl, by decide +kernel, rfl, by decide +kernel, by decide +kernel⟩
theorem g_back (T : Txt K mg) : GF P w K mg base (L2.CX P w) "back" 4 ["row"] (sp_back K) := by
  obtain ⟨fd, F⟩ := T.c.def_ 8 (d := d_back) rfl
  refine gfFX (N := N_back) F T.g_back (fun _ _ _ _ _ _ us hl => match us, hl with | [_], _ => rfl) sc_back rfl (fun cdv A outer s H E ds hr hl => ?_)
  refine ⟨_, (pss_cons (ps_expr (pe_g (g_check_row T) hr (passes_call (takes_of rfl rfl rfl rfl) (fun _ _ _ _ z => z)) (pa_cons (pv 0) pa_nil)))
      (PSs.nox (pss_cons (ps_set (i := 1) sc_back.nd rfl (Or.inl rfl) (pe_callTy (kList (K := K) rfl) (by rfl) T.f_list boot_list (pa_cons (pv 0) pa_nil)))
      (pss_cons (ps_set (i := 2) sc_back.nd rfl (Or.inl rfl) (pe_lst pa_nil))
      (pss_cons (ps_while PassesOwn.never (pt_cmpR (kNe (K := K) rfl hr) (pv 1) (pe_lst pa_nil) (nomark _))
      (pss_cons (ps_set (i := 3) sc_back.nd rfl (Or.inl rfl) (pe_bm0 PySem.F.plainAttrs_list PySem.F.slot_list_pop PySem.F.type_list_pop mt_pop (pv 1)))
      (pss_cons (ps_expr (k_bm (K := K) rfl PySem.F.plainAttrs_list PySem.F.slot_list_append PySem.F.type_list_append mt_append (pv 2) (pa_cons (pv 3) pa_nil)))
      (pss_cons (ps_set (i := 4) sc_back.nd rfl (Or.inl rfl) (pe_lst pa_nil))
      (pss_cons (ps_set (i := 5) sc_back.nd rfl (Or.inl rfl) (pe_lst pa_nil))
      (pss_cons (ps_for PassesOwn.never rfl (k_list (K := K) rfl (pv 1)) (pg_name (i := 6) sc_back.nd rfl (Or.inl rfl))
      (pss_cons (ps_if (PW.pt (pw_and (pt_cmpR (kNe (K := K) rfl hr) (pv 5) (pe_lst pa_nil) (nomark _)) (pw_and1 (pt_val (pe_g (g_is_end T) hr pass0 (pa_cons (pv 6) (pa_cons (pv 3) (pa_cons (pe_ix (kIx (K := K) rfl) (pv 1) pe_int (fun _ _ => rfl)) pa_nil)))))))) (pss_cons (ps_expr (k_bm (K := K) rfl PySem.F.plainAttrs_list PySem.F.slot_list_extend PySem.F.type_list_extend mt_extend (pv 4) (pa_cons (pe_op op_catR (pe_slice (kSl (K := K) rfl) (pv 5) (po_some pe_int) po_none) (pe_slice (kSl (K := K) rfl) (pv 5) po_none (po_some pe_int))) pa_nil)))
      (pss_one (ps_set (i := 5) sc_back.nd rfl (Or.inl rfl) (pe_lst pa_nil)))) pss_nil)
      (pss_one (ps_expr (k_bm (K := K) rfl PySem.F.plainAttrs_list PySem.F.slot_list_append PySem.F.type_list_append mt_append (pv 5) (pa_cons (pv 6) pa_nil))))))
      (pss_one (ps_set (i := 1) sc_back.nd rfl (Or.inl rfl) (pe_op op_catR (pe_op op_catR (pv 4) (pe_slice (kSl (K := K) rfl) (pv 5) (po_some pe_int) po_none)) (pe_slice (kSl (K := K) rfl) (pv 5) po_none (po_some pe_int)))))))))))
      (pss_one (ps_ret (k_revL (K := K) rfl (pv 2))))))))), fun d hf => ?_, fun C hf => ?_⟩
  · obtain ⟨ns, rfl, hl, rfl⟩ := hf
    refine w_seq (w_drop (s_callX (s_acons (s_v rfl) s_anil) ⟨_, rfl, tame_ints ns, row_ints hl, rfl⟩) ?_)
    refine w_seq (w_setFI (ns := ns) (s_list (s_v rfl)) ?_)
    refine w_seq (w_nilI (k := ?_))
    refine w_seq (w_while (fun n a => ∃ (fs tk : List Int) (s3 s4 s5 s6 : Sl), a = [.d (dI ns), .o (fs.map .int), .o (tk.map .int), s3, s4, s5, s6] ∧ SF.back fs ++ tk.reverse = SF.back ns ∧ fs.length = n ∧ fs.length + tk.length ≤ 200) (n := ns.length) ⟨ns, [], _, _, _, _, rfl, by simp, rfl, by simpa using hl⟩ fun n a ia => ?_)
    obtain ⟨fs, tk, s3, s4, s5, s6, rfl, inv, hn, hlen⟩ := ia
    refine ⟨_, s_test (s_neL (ms := []) (s_vo rfl) (s_lst s_anil (Nat.zero_le _)).ev), fun h => ?_, fun h => ?_⟩
    · have fne : fs ≠ [] := by simpa using h
      obtain ⟨w, z, rfl⟩ : ∃ w z, fs = w ++ [z] := ⟨fs.dropLast, fs.getLast fne, (List.dropLast_concat_getLast fne).symm⟩
      refine w_seq (w_pop (i := 1) (d := .int z) rfl (by simp) ?_)
      have e1 : ((w ++ [z]).map Da.int).dropLast = w.map Da.int := by simp
      rw [e1]
      refine w_seq (w_appendI (i := 2) rfl (s_v rfl) (szlt (b := 200) (by simp at hlen; omega)) ?_)
      refine w_seq (w_nilI (k := ?_))
      refine w_seq (w_nilI (k := ?_))
      have hwl : w.length ≤ 200 := by simp at hlen; omega
      refine w_seq (w_froz (i := 1) rfl (w_forL (fun j a => ∃ (acc don : List Int) (s6 : Sl), a = [.d (dI ns), .d (dI w), .o ((tk ++ [z]).map .int), .d (.int z), .o (don.map .int), .o (acc.map .int), s6] ∧
          don ++ SF.unGo (fun y => SF.isEnd y z (w.head?.getD 0)) acc (w.drop j) = SF.unrot z w ∧ don.length + acc.length ≤ j) (s_v rfl) ⟨[], [], _, rfl, rfl, Nat.le_refl _⟩ (fun j x a hx ia => ⟨_, g_name, ?_⟩) fun a ia => ?_))
      · obtain ⟨acc, don, s6, rfl, jnv, len⟩ := ia
        obtain ⟨o, ho, rfl⟩ := get_int hx
        have hj := lt_of_get ho
        have wne : w ≠ [] := by intro e; subst e; simp at hj
        rw [drop_at ho] at jnv
        refine w_seq (w_if (s_tand (s_test (s_neL (ms := []) (s_vo rfl) (s_lst s_anil (Nat.zero_le _)).ev)) fun _ => s_B (s_call (s_acons (s_v rfl) (s_acons (s_v rfl) (s_acons (s_ixL (s_v rfl) s_cI (head_ints wne)) s_anil))) ⟨_, _, _, rfl, rfl⟩)) (fun hq => ?_) fun hq => ?_)
        · simp only [Bool.and_eq_true, Bool.not_eq_true', decide_eq_false_iff_not] at hq
          rw [unGo_yes (p := fun y => SF.isEnd y z (w.head?.getD 0)) hq.2 hq.1] at jnv
          refine w_seq (w_extendI (i := 4) (ms := acc.drop 1 ++ acc.take 1) rfl ((s_catI (s_slI (s_vo rfl) (s_osome s_cI) s_onone).ev (s_slI (s_vo rfl) s_onone (s_osome s_cI)).ev ?_).is ?_) ?_ ?_)
          · rw [show (1 : Int) = ((1 : Nat) : Int) from rfl, cut_from, cut_to]; exact szl (b := 402) (by simp; omega)
          · rw [show (1 : Int) = ((1 : Nat) : Int) from rfl, cut_from, cut_to]
          · exact szl (b := 402) (by simp; omega)
          · refine w_nilI (k := ?_)
            refine w_appendI (i := 5) (ns := []) rfl (s_v rfl) (by decide) ⟨[o], don ++ (acc.drop 1 ++ acc.take 1), _, rfl, by rw [List.append_assoc]; exact jnv, ?_⟩
            have : acc.length ≠ 0 := fun e => hq.1 (List.length_eq_zero_iff.mp e)
            simp; omega
        · have hq : SF.isEnd o z (w.head?.getD 0) = false ∨ acc = [] := by
            by_cases ha : acc = []
            · exact .inr ha
            · left; simpa [ha] using hq
          rw [unGo_no (p := fun y => SF.isEnd y z (w.head?.getD 0)) hq] at jnv
          refine w_next ?_
          refine w_appendI (i := 5) rfl (s_v rfl) (szlt (b := 200) (by omega)) ⟨acc ++ [o], don, _, rfl, jnv, by simp; omega⟩
      · obtain ⟨acc, don, s6, rfl, jnv, len⟩ := ia
        rw [List.length_map, List.drop_length] at jnv
        have jnv : don ++ (acc.drop 1 ++ acc.take 1) = SF.unrot z w := jnv
        have hlw : don.length + acc.length ≤ w.length := by rw [List.length_map] at len; exact len
        refine w_setFI (ns := SF.unrot z w) ((s_catI (s_catI (s_vo rfl) (s_slI (s_vo rfl) (s_osome s_cI) s_onone).ev ?_).ev (s_slI (s_vo rfl) s_onone (s_osome s_cI)).ev ?_).is ?_) ⟨_, ?_, SF.unrot z w, tk ++ [z], _, _, _, _, rfl, ?_, rfl, ?_⟩
        · rw [show (1 : Int) = ((1 : Nat) : Int) from rfl, cut_from]; exact szl (b := 402) (by simp; omega)
        · rw [show (1 : Int) = ((1 : Nat) : Int) from rfl, cut_from, cut_to]; exact szl (b := 602) (by simp; omega)
        · rw [show (1 : Int) = ((1 : Nat) : Int) from rfl, cut_from, cut_to, ← jnv, List.append_assoc]
        · rw [SF.unrot_len]; simp at hn; omega
        · rw [← inv, back_step]; simp
        · rw [SF.unrot_len]; simp at hlen ⊢; omega
    · have fe : fs = [] := by simpa using h
      subst fe
      refine w_retF ((s_revI (ns := tk) (s_vo rfl)).is ?_) rfl
      rw [← inv]
      rfl
  · obtain ⟨x, rfl, h⟩ := hf
    exact w_seq (w_refused (s_acons (s_v rfl) s_anil) ⟨x, rfl, h⟩ rfl rfl)
section
variable {as : AS} {te : TE} {E : XK} {ns : List Int}
theorem c_turned (h : EvS te as (dI ns)) (hl : ns.length ≤ 200) : FvS (tCall (sp_turned K) [] E (tCons te tNil)) as ((SF.turned ns).map .int) := s_fcallX (s_acons h s_anil) ⟨ns, rfl, hl, rfl⟩
theorem c_back (h : EvS te as (dI ns)) (hl : ns.length ≤ 200) : FvS (tCall (sp_back K) [] E (tCons te tNil)) as ((SF.back ns).map .int) := s_fcallX (s_acons h s_anil) ⟨ns, rfl, hl, rfl⟩
theorem c_swaps (h : EvS te as (dI ns)) (hl : ns.length ≤ 200) : EvS (tCall (sp_swaps K) [] E (tCons te tNil)) as (.int (SF.inv ns)) := s_callX (s_acons h s_anil) ⟨ns, rfl, hl, rfl⟩
theorem c_falls (h : EvS te as (dI ns)) (hl : ns.length ≤ 200) : FvS (tCall (sp_falls K) [] E (tCons te tNil)) as ((SF.falls ns).map .int) := s_fcallX (s_acons h s_anil) ⟨ns, rfl, hl, rfl⟩
end

end
section
variable {P : Program} {w : World} {K : PySem.W.Frag} {mg : Str → Option Value} {base : Heap}
/-! ### the law's own defs -/
theorem bits_lt {x : Int} {n : Nat} (h : Builtin.Int.intBits x ≤ n) : x.natAbs < 2 ^ n := by
  unfold Builtin.Int.intBits at h
  split at h
  · rename_i h0
    have : x = 0 := by simpa using h0
    subst this
    simp
    exact Nat.pos_of_ne_zero (by simp)
  · rename_i h0
    have hp : x.natAbs ≠ 0 := by simpa using h0
    exact (Nat.log2_lt hp).mp (by omega)
theorem lt_bits {x : Int} {n : Nat} (h : x.natAbs < 2 ^ n) : Builtin.Int.intBits x ≤ n := by
  unfold Builtin.Int.intBits
  split
  · exact Nat.zero_le _
  · rename_i h0
    have hp : x.natAbs ≠ 0 := by simpa using h0
    have := (Nat.log2_lt hp).mpr h
    omega
theorem mulOk {a b : Int} {m n : Nat} (ha : a.natAbs < 2 ^ m) (hb : b.natAbs < 2 ^ n) (h : m + n ≤ 100000000) : IntMulOk a b := by
  have h1 := lt_bits ha
  have h2 := lt_bits hb
  have e : bitsLine = 134217728 := by decide
  unfold IntMulOk
  intro z
  rw [Bool.and_eq_true] at z
  have z2 := z.2
  unfold Builtin.Int.intTooBig at z2
  have z3 := of_decide_eq_true z2
  rw [e] at z3
  omega
theorem mulL {a b : Int} (h1 : -(2 ^ 64) < a) (h2 : a < 2 ^ 64) : IntMulOk a b := .of_left (intBits_le_64 h1 h2)
theorem mulR {a b : Int} (h1 : -(2 ^ 64) < b) (h2 : b < 2 ^ 64) : IntMulOk a b := .of_right (intBits_le_64 h1 h2)
/-- a number of the script -/
abbrev SB (c : Int) : Prop := Builtin.Int.intBits c ≤ 1048576
namespace LM
def mixed (c a w : Int) : Int := ((c + 977 * a) * 48271 + w) % 2147483647
def more (c a w : Int) : Int := mixed c a w * (mixed c a w + 31 * a + 7) * (mixed c a w + c + 5)
def number (c a w : Int) : Int := if 10 ^ 18 ≤ c then c else more c a w * (more c a w + 48271) / 1009
theorem mixed_bd (c a w : Int) : 0 ≤ mixed c a w ∧ mixed c a w < 2147483647 := ⟨Int.emod_nonneg _ (by decide), Int.emod_lt_of_pos _ (by decide)⟩
theorem first_bd {c a w : Int} (h0 : 0 ≤ a) (h1 : a ≤ 100000) : 0 ≤ mixed c a w * (mixed c a w + 31 * a + 7) ∧ mixed c a w * (mixed c a w + 31 * a + 7) < 2 ^ 63 := by
  obtain ⟨p, q⟩ := mixed_bd c a w
  refine ⟨Int.mul_nonneg p (by omega), ?_⟩
  have : mixed c a w * (mixed c a w + 31 * a + 7) ≤ 2147483646 * (2147483646 + 3100000 + 7) := Int.mul_le_mul (by omega) (by omega) (by omega) (by decide)
  omega
theorem more_ok {c a w : Int} {n : Nat} (hn : n ≤ 1048576) (hc : c.natAbs < 2 ^ n) (h0 : 0 ≤ a) (h1 : a ≤ 100000) : IntMulOk (more c a w) (more c a w + 48271) := by
  obtain ⟨p, q⟩ := mixed_bd c a w
  obtain ⟨p2, q2⟩ := first_bd (c := c) (w := w) h0 h1
  have hq : (mixed c a w + c + 5).natAbs < 2 ^ (n + 33) := by
    rw [Nat.pow_add]
    have : 0 < 2 ^ n := Nat.pos_of_ne_zero (by simp)
    generalize 2 ^ n = X at hc this ⊢
    omega
  have hm : (more c a w).natAbs < 2 ^ (63 + (n + 33)) := by
    unfold more
    rw [Int.natAbs_mul, Nat.pow_add]
    refine Nat.mul_lt_mul'' ?_ hq
    have e : (2 : Int) ^ 63 = 9223372036854775808 := by decide
    have e2 : (2 : Nat) ^ 63 = 9223372036854775808 := by decide
    rw [e] at q2
    rw [e2]
    omega
  have hm2 : (more c a w + 48271).natAbs < 2 ^ (63 + (n + 33) + 20) := by
    rw [Nat.pow_add _ _ 20]
    have : 0 < 2 ^ (63 + (n + 33)) := Nat.pos_of_ne_zero (by simp)
    generalize 2 ^ (63 + (n + 33)) = X at hm this ⊢
    have e2 : (2 : Nat) ^ 20 = 1048576 := by decide
    rw [e2]
    omega
  exact mulOk hm hm2 (by omega)
end LM
abbrev sp_law_number : Sp := spD 3 fun ds d => ∃ c a w : Int, ds = [.int c, .int a, .int w] ∧ SB c ∧ 0 ≤ a ∧ a ≤ 100000 ∧ d = .int (LM.number c a w)
abbrev N_law_number : List Str := ["_law_cell", "_law_at", "_law_whole_here", "_law_mixed", "_law_more"]
theorem sc_law_number : FnScope N_law_number ["_law_cell", "_law_at", "_law_whole_here"] (defScope s_law_number) := ⟨rfl, rfl, rfl, by decide +kernel, rfl, by decide +kernel, by decide +kernel⟩
theorem g_law_number (T : Txt K mg) : GF P w K mg base CX0 "_law_number" 1 ["_law_cell", "_law_at", "_law_whole_here"] (sp_law_number) := by
  obtain ⟨fd, F⟩ := T.c.def_ 9 (d := d_law_number) rfl
  refine gfD (N := N_law_number) F T.g_law_number (fun _ _ _ _ _ _ us hl => match us, hl with | [_, _, _], _ => rfl) sc_law_number rfl (fun cdv A outer s H E ds d hr hl hf => ?_)
  refine ⟨_, (PSs.nox (pss_cons (ps_if (pt_cmpR op_ge (pv 0) (pe_op op_pow pe_int pe_int) (nomark _)) (pss_one (ps_ret (pv 0))) pss_nil)
      (pss_cons (ps_set (i := 3) sc_law_number.nd rfl (Or.inl rfl) (pe_op op_mod (pe_op op_add (pe_op op_mulM (pe_op op_add (pv 0) (pe_op op_mulM pe_int (pv 1))) pe_int) (pv 2)) pe_int))
      (pss_cons (ps_set (i := 4) sc_law_number.nd rfl (Or.inl rfl) (pe_op op_mulM (pe_op op_mulM (pv 3) (pe_op op_add (pe_op op_add (pv 3) (pe_op op_mulM pe_int (pv 1))) pe_int)) (pe_op op_add (pe_op op_add (pv 3) (pv 0)) pe_int)))
      (pss_one (ps_ret (pe_op op_fdiv (pe_op op_mulM (pv 4) (pe_op op_add (pv 4) pe_int)) pe_int))))))), ?_⟩
  obtain ⟨c, a, w, rfl, hc, h0, h1, rfl⟩ := hf
  refine w_seq (w_if (s_test (s_IB (s_v rfl) (s_IC s_cI s_cI ?_))) (fun h => ?_) fun h => ?_)
  · exact ⟨by decide, by decide, by decide⟩
  · have h : (10 : Int) ^ 18 ≤ c := of_decide_eq_true h
    refine w_ret (s_v rfl) ?_
    show some (Da.int c) = some (Da.int (LM.number c a w))
    rw [LM.number, if_pos h]
  · have h : ¬ (10 : Int) ^ 18 ≤ c := of_decide_eq_false h
    refine w_next ?_
    refine w_seq (w_setI (s_IC (s_II (s_IC (s_II (s_v rfl) (s_IC s_cI (s_v rfl) (.of_left (by decide)))) s_cI (.of_right (by decide))) (s_v rfl)) s_cI ?_) ?_)
    · show (0 : Int) < 2147483647
      decide
    obtain ⟨p, q⟩ := LM.mixed_bd c a w
    obtain ⟨p2, q2⟩ := LM.first_bd (c := c) (w := w) h0 h1
    refine w_seq (w_setI (s_IC (s_IC (s_v rfl) (s_II (s_II (s_v rfl) (s_IC s_cI (s_v rfl) (.of_left (by decide)))) s_cI) ?_) (s_II (s_II (s_v rfl) (s_v rfl)) s_cI) ?_) ?_)
    · show IntMulOk (LM.mixed c a w) _
      exact mulL (by omega) (by omega)
    · show IntMulOk (LM.mixed c a w * (LM.mixed c a w + 31 * a + 7)) _
      exact mulL (by omega) (by omega)
    refine w_ret (s_IC (s_IC (s_v rfl) (s_II (s_v rfl) s_cI) ?_) s_cI ?_) ?_
    · exact LM.more_ok (Nat.le_refl _) (bits_lt hc) h0 h1
    · exact ⟨by decide, by decide⟩
    · show some (Da.int _) = some (Da.int (LM.number c a w))
      rw [LM.number, if_neg h]
      rfl
theorem sw_range (ns : List Int) (z : Int) (k : Nat) (hk : k ≤ ns.length) : ((List.range k).filter fun i => decide (z < ns.getD i 0)).length = ((ns.take k).filter fun o => decide (z < o)).length := by
  induction k with
  | zero => rfl
  | succ k ih =>
    rw [List.range_succ, List.filter_append, List.length_append, ih (by omega), List.take_add_one, List.getElem?_eq_getElem (by omega), Option.toList_some, List.filter_append, List.length_append]
    congr 1
    have : ns.getD k 0 = ns[k] := by simp [show k < ns.length by omega]
    simp only [List.filter_cons, List.filter_nil, this]
    split <;> rfl
abbrev sp_law_swaps : Sp := spD 1 fun ds d => ∃ ns : List Int, ds = [dI ns] ∧ ns.length ≤ 100000 ∧ d = .int (SF.inv ns)
abbrev N_law_swaps : List Str := ["_law_row_here", "_law_one", "_law_place", "_law_at"]
theorem sc_law_swaps : FnScope N_law_swaps ["_law_row_here"] (defScope s_law_swaps) := ⟨rfl, rfl, rfl, by decide +kernel, rfl, by decide +kernel, by decide +kernel⟩
theorem g_law_swaps (T : Txt K mg) : GF P w K mg base CX0 "_law_swaps" 1 ["_law_row_here"] (sp_law_swaps) := by
  obtain ⟨fd, F⟩ := T.c.def_ 10 (d := d_law_swaps) rfl
  refine gfD (N := N_law_swaps) F T.g_law_swaps (fun _ _ _ _ _ _ us hl => match us, hl with | [_], _ => rfl) sc_law_swaps rfl (fun cdv A outer s H E ds d hr hl hf => ?_)
  refine ⟨_, (PSs.nox (pss_one (ps_ret (pe_callB (kSum (K := K) rfl rfl) (by rfl) T.f_sum (by decide +kernel) (pa_cons (pe_lc (own := [("_law_place", 2), ("_law_one", 1)]) (g := gTup K 2 (gCons (gName 2) (gCons (gName 1) gNil))) (by rfl) sc_law_swaps.nd (k_enum (K := K) rfl T.f_enumerate (pa_cons (pv 0) pa_nil)) (blkOk_by (own := [("_law_place", 2), ("_law_one", 1)]) (N := N_law_swaps) (sc := defScope s_law_swaps) (by decide +kernel)) (fun _ _ _ _ _ => (pg_tup rfl (pgs_cons (pg_name (i := 2) sc_law_swaps.nd rfl (Or.inl rfl)) (pgs_cons (pg_name (i := 1) sc_law_swaps.nd rfl (Or.inr rfl)) pgs_nil)))) (fun _ _ _ _ _ => pts_nil) (fun _ _ _ _ _ => (pe_callB (kLen (K := K) rfl) (by rfl) T.f_len PySem.boot_len (pa_cons (pe_lc (own := [("_law_at", 3)]) (g := gName 3) (by rfl) sc_law_swaps.nd (pi_range1 (by rfl) T.f_range (pa_cons (pv 2) pa_nil)) (blkOk_by (own := [("_law_at", 3)]) (N := N_law_swaps) (sc := relS _ (defScope s_law_swaps)) (by decide +kernel)) (fun _ _ _ _ _ => (pg_name (i := 3) sc_law_swaps.nd rfl (Or.inl rfl))) (fun _ _ _ _ _ => (pts_one (pt_cmpR op_gt (pe_ix (kIx (K := K) rfl) (pv 0) (pv 3) (fun _ _ => rfl)) (pv 1) (nomark _)))) (fun _ _ _ _ _ => (pv 3))) pa_nil)))) pa_nil))))), ?_⟩
  obtain ⟨ns, rfl, hl2, rfl⟩ := hf
  refine w_ret (d := .int (SF.inv ns)) ?_ rfl
  rw [← SF.swCol_sum]
  refine s_sum (FvS.ev (FvS.is (s_lcEI (fun i z => .int (SF.swAt ns i z : Int)) (s_v rfl) (szl hl2) (by decide) (by decide) fun i z hz => ?_) (by unfold SF.swCol; rw [List.map_map]; rfl)))
  have hi := lt_of_get hz
  refine (s_len (FvS.ev (s_lcR (fun k => if decide (z < ns.getD k 0) = true then some (.int (k : Int)) else none) (s_acons (s_v rfl) s_anil) (by omega) (by omega) (by decide) (fun k hk => ?_) fun k y hk hy => ?_))).is ?_
  · refine (s_test (s_IB (s_ixL (s_v rfl) (s_v rfl) (at_ints (by omega))) (s_v rfl))).is ?_
    cases hq : decide (z < ns.getD k 0) <;> simp [hq]
  · split at hy
    · cases hy; exact s_v rfl
    · cases hy
  · unfold col
    rw [fm_if, List.length_map, Int.toNat_natCast, sw_range ns z i (by omega)]
    rfl
namespace LM
def mostAt (r : Int) : Int := [2, 3, 5, 9, 10 ^ 30, 60, 1, 4].getD r.toNat 1
theorem mostAt_pos (r : Int) : 0 < mostAt r := by
  unfold mostAt
  match r.toNat with
  | 0 => decide
  | 1 => decide
  | 2 => decide
  | 3 => decide
  | 4 => decide
  | 5 => decide
  | 6 => decide
  | 7 => decide
  | n + 8 => exact (by decide : (0 : Int) < 1)
def most (sc : List Int) (b : Int) : Int := mostAt (((sc.take 63).sum + b) % 8)
def row0 (sc : List Int) (b : Int) : List Int := (List.range (sc.take 63).length).map fun i => number ((sc.take 63).getD i 0) ((i : Int) + 63 * b) (sc.take 63).sum / 3 % most sc b - most sc b / 2
def row1 (sc : List Int) (b : Int) : List Int := if ((sc.take 63).sum / 8 + b) % 9 = 4 then srt (row0 sc b) else row0 sc b
def row (sc : List Int) (b : Int) : List Int := if ((sc.take 63).sum / 8 + b) % 9 = 5 then (srt (row1 sc b)).reverse else row1 sc b
theorem row0_len (sc : List Int) (b : Int) : (row0 sc b).length ≤ 63 := by
  unfold row0
  rw [List.length_map, List.length_range, List.length_take]
  omega
theorem srt_len (ns : List Int) : (srt ns).length = ns.length := (srt_perm ns).length_eq
theorem row1_len (sc : List Int) (b : Int) : (row1 sc b).length ≤ 63 := by
  unfold row1
  split
  · rw [srt_len]; exact row0_len sc b
  · exact row0_len sc b
theorem row_len (sc : List Int) (b : Int) : (row sc b).length ≤ 63 := by
  unfold row
  split
  · rw [List.length_reverse, srt_len]; exact row1_len sc b
  · exact row1_len sc b
theorem most_at (sc : List Int) (b : Int) : atI [Da.int 2, .int 3, .int 5, .int 9, .int (10 ^ (30 : Int).toNat), .int 60, .int 1, .int 4] (((sc.take 63).sum + b) % 8) = some (.int (most sc b)) := by
  unfold most mostAt
  have h0 : 0 ≤ ((sc.take 63).sum + b) % 8 := Int.emod_nonneg _ (by decide)
  have h1 : ((sc.take 63).sum + b) % 8 < 8 := Int.emod_lt_of_pos _ (by decide)
  generalize ((sc.take 63).sum + b) % 8 = r at h0 h1
  obtain ⟨k, rfl⟩ : ∃ k : Nat, r = k := ⟨r.toNat, by omega⟩
  refine atI_nat ?_
  have hk : k < 8 := by omega
  match k, hk with
  | 0, _ => rfl
  | 1, _ => rfl
  | 2, _ => rfl
  | 3, _ => rfl
  | 4, _ => rfl
  | 5, _ => rfl
  | 6, _ => rfl
  | 7, _ => rfl
end LM
theorem mem_getD {ns : List Int} {i : Nat} (h : i < ns.length) : ns.getD i 0 ∈ ns := by
  have : ns.getD i 0 = ns[i] := by simp [h]
  rw [this]
  exact List.getElem_mem h
abbrev sp_law_row (K : PySem.W.Frag) : Sp := spF 2 fun ds xs => ∃ (sc : List Int) (b : Int), ds = [.sc K sc, .int b] ∧ (∀ c ∈ sc, SB c) ∧ 0 ≤ b ∧ b ≤ 100 ∧ xs = (LM.row sc b).map Da.int
abbrev N_law_row : List Str := ["_law_script", "_law_by", "_law_cells", "_law_whole_here", "_law_most", "_law_found", "_law_at", "_law_cell"]
theorem sc_law_row : FnScope N_law_row ["_law_script", "_law_by"] (defScope s_law_row) := ⟨rfl, rfl, rfl, by decide +kernel, rfl, by decide +kernel, by decide +kernel⟩
theorem g_law_row (T : Txt K mg) : GF P w K mg base CX0 "_law_row" 2 ["_law_script", "_law_by"] (sp_law_row K) := by
  obtain ⟨fd, F⟩ := T.c.def_ 11 (d := d_law_row) rfl
  refine gfF (N := N_law_row) F T.g_law_row (fun _ _ _ _ _ _ us hl => match us, hl with | [_, _], _ => rfl) sc_law_row rfl (fun cdv A outer s H E ds d hr hl hf => ?_)
  refine ⟨_, (PSs.nox (pss_cons (ps_set (i := 2) sc_law_row.nd rfl (Or.inl rfl) (pe_slice (kSl (K := K) rfl) (pv 0) po_none (po_some pe_int)))
      (pss_cons (ps_set (i := 3) sc_law_row.nd rfl (Or.inr rfl) (pe_callB (kSum (K := K) rfl rfl) (by rfl) T.f_sum (by decide +kernel) (pa_cons (pv 2) pa_nil)))
      (pss_cons (ps_set (i := 4) sc_law_row.nd rfl (Or.inr rfl) (pe_ix (kIxT (K := K) rfl) (pe_tup (pa_cons pe_int (pa_cons pe_int (pa_cons pe_int (pa_cons pe_int (pa_cons (pe_op op_pow pe_int pe_int) (pa_cons pe_int (pa_cons pe_int (pa_cons pe_int pa_nil))))))))) (pe_op op_mod (pe_op op_add (pv 3) (pv 1)) pe_int) (fun _ _ => rfl)))
      (pss_cons (ps_setLc (i := 5) (own := [("_law_at", 6), ("_law_cell", 7)]) (g := gTup K 2 (gCons (gName 6) (gCons (gName 7) gNil))) (by rfl) sc_law_row.nd rfl rfl (sw_true rfl rfl rfl (by decide +kernel)) (k_enum (K := K) rfl T.f_enumerate (pa_cons (pv 2) pa_nil)) (blkOk_by (own := [("_law_at", 6), ("_law_cell", 7)]) (N := N_law_row) (sc := defScope s_law_row) (by decide +kernel)) (fun _ _ _ _ _ => (pg_tup rfl (pgs_cons (pg_name (i := 6) sc_law_row.nd rfl (Or.inl rfl)) (pgs_cons (pg_name (i := 7) sc_law_row.nd rfl (Or.inl rfl)) pgs_nil)))) (fun _ _ _ _ _ => pts_nil) (fun _ _ _ _ _ => (pe_op op_sub (pe_op op_mod (pe_op op_fdiv (pe_g (g_law_number T) hr pass0 (pa_cons (pv 7) (pa_cons (pe_op op_add (pv 6) (pe_op op_mulM pe_int (pv 1))) (pa_cons (pv 3) pa_nil)))) pe_int) (pv 4)) (pe_op op_fdiv (pv 4) pe_int))))
      (pss_cons (ps_if (pt_cmpR (kEq (K := K) rfl hr) (pe_op op_mod (pe_op op_add (pe_op op_fdiv (pv 3) pe_int) (pv 1)) pe_int) pe_int (nomark _)) (pss_one (ps_set (i := 5) sc_law_row.nd rfl (Or.inl rfl) (pe_callB (kSorted (K := K) rfl) (by rfl) T.f_sorted (by decide +kernel) (pa_cons (pv 5) pa_nil)))) pss_nil)
      (pss_cons (ps_if (pt_cmpR (kEq (K := K) rfl hr) (pe_op op_mod (pe_op op_add (pe_op op_fdiv (pv 3) pe_int) (pv 1)) pe_int) pe_int (nomark _)) (pss_one (ps_set (i := 5) sc_law_row.nd rfl (Or.inl rfl) (k_revL (K := K) rfl (pe_callB (kSorted (K := K) rfl) (by rfl) T.f_sorted (by decide +kernel) (pa_cons (pv 5) pa_nil))))) pss_nil)
      (pss_one (ps_ret (pv 5)))))))))), ?_⟩
  obtain ⟨sc, b, rfl, hb, b0, b1, rfl⟩ := hf
  refine w_seq (w_setFI (ns := sc.take 63) ((s_slS (s_v rfl) s_onone (s_osome s_cI)).is (by rw [show (63 : Int) = ((63 : Nat) : Int) from rfl, cut_to])) ?_)
  refine w_seq (w_setI (s_sum (s_vo rfl)) ?_)
  refine w_seq (w_setI (z := LM.most sc b) (s_ixT (s_tup (s_acons s_cI (s_acons s_cI (s_acons s_cI (s_acons s_cI (s_acons (s_IC s_cI s_cI ?_) (s_acons s_cI (s_acons s_cI (s_acons s_cI s_anil)))))))) ?_) (s_IC (s_II (s_v rfl) (s_v rfl)) s_cI ?_) (LM.most_at sc b)) ?_)
  · exact ⟨by decide, by decide, by decide⟩
  · exact Nat.le_trans (show _ ≤ 8 from Nat.le_refl _) (by decide)
  · exact (by decide : (0 : Int) < 8)
  have mp := LM.mostAt_pos (((sc.take 63).sum + b) % 8)
  refine w_seq (w_setFI (ns := LM.row0 sc b) (FvS.is (s_lcEI (fun i z => .int (LM.number z ((i : Int) + 63 * b) (sc.take 63).sum / 3 % LM.most sc b - LM.most sc b / 2)) (s_vo rfl) (szl (b := 63) (by rw [List.length_take]; omega)) (by decide) (by decide) fun i z hz => ?_) ?_) ?_)
  · have hi := lt_of_get hz
    have hz2 : z ∈ sc := List.mem_of_mem_take (List.mem_of_getElem? hz)
    rw [List.length_take] at hi
    refine s_II (s_IC (s_IC (s_call (s_acons (s_v rfl) (s_acons (s_II (s_v rfl) (s_IC s_cI (s_v rfl) (.of_left (by decide)))) (s_acons (s_v rfl) s_anil))) ⟨z, (i : Int) + 63 * b, (sc.take 63).sum, rfl, hb z hz2, by omega, by omega, rfl⟩) s_cI ⟨by decide, by decide⟩) (s_v rfl) mp) (s_IC (s_v rfl) s_cI ⟨by decide, by decide⟩)
  · unfold LM.row0; rw [List.map_map]; rfl
  refine w_cut (bs := [.d (.sc K sc), .d (.int b), .o ((sc.take 63).map .int), .d (.int (sc.take 63).sum), .d (.int (LM.most sc b)), .o ((LM.row1 sc b).map .int), .u, .u]) (w_if (s_test (s_eqI (s_IC (s_II (s_IC (s_v rfl) s_cI ⟨by decide, by decide⟩) (s_v rfl)) s_cI (by decide : (0 : Int) < 9)) s_cI)) (fun h => ?_) fun h => ?_) ?_
  · have h : ((sc.take 63).sum / 8 + b) % 9 = 4 := of_decide_eq_true h
    refine w_setFI (s_sorted (s_vo rfl)) ?_
    rw [LM.row1, if_pos h]
    rfl
  · have h : ¬ ((sc.take 63).sum / 8 + b) % 9 = 4 := of_decide_eq_false h
    refine w_next ?_
    rw [LM.row1, if_neg h]
    rfl
  refine w_cut (bs := [.d (.sc K sc), .d (.int b), .o ((sc.take 63).map .int), .d (.int (sc.take 63).sum), .d (.int (LM.most sc b)), .o ((LM.row sc b).map .int), .u, .u]) (w_if (s_test (s_eqI (s_IC (s_II (s_IC (s_v rfl) s_cI ⟨by decide, by decide⟩) (s_v rfl)) s_cI (by decide : (0 : Int) < 9)) s_cI)) (fun h => ?_) fun h => ?_) (w_retO rfl rfl)
  · have h : ((sc.take 63).sum / 8 + b) % 9 = 5 := of_decide_eq_true h
    refine w_setFI (s_revI (s_sorted (s_vo rfl)).ev) ?_
    rw [LM.row, if_pos h]
    rfl
  · have h : ¬ ((sc.take 63).sum / 8 + b) % 9 = 5 := of_decide_eq_false h
    refine w_next ?_
    rw [LM.row, if_neg h]
abbrev sp_law_whole : Sp := spD 1 fun ds d => ∃ ns : List Int, ds = [dI ns] ∧ ns.length ≤ 100000 ∧ d = .bl true
abbrev N_law_whole : List Str := ["_law_found", "_law_one"]
theorem sc_law_whole : FnScope N_law_whole ["_law_found"] (defScope s_law_whole) := ⟨rfl, rfl, rfl, by decide +kernel, rfl, by decide +kernel, by decide +kernel⟩
theorem g_law_whole (T : Txt K mg) : GF P w K mg base CX0 "_law_whole" 1 ["_law_found"] (sp_law_whole) := by
  obtain ⟨fd, F⟩ := T.c.def_ 12 (d := d_law_whole) rfl
  refine gfD (N := N_law_whole) F T.g_law_whole (fun _ _ _ _ _ _ us hl => match us, hl with | [_], _ => rfl) sc_law_whole rfl (fun cdv A outer s H E ds d hr hl hf => ?_)
  refine ⟨_, (PSs.nox (pss_one (ps_ret (pe_and (pe_callB (kIsi (K := K) rfl) (by rfl) T.f_isinstance (by decide +kernel) (pa_cons (pv 0) (pa_cons (pe_bltn (v := .ty "list") (by rfl) T.f_list boot_list rfl) pa_nil))) (pe_one (pe_callB (kAll (K := K) rfl rfl) (by rfl) T.f_all (by decide +kernel) (pa_cons (pe_lc (own := [("_law_one", 1)]) (g := gName 1) (by rfl) sc_law_whole.nd (k_list (K := K) rfl (pv 0)) (blkOk_by (own := [("_law_one", 1)]) (N := N_law_whole) (sc := defScope s_law_whole) (by decide +kernel)) (fun _ _ _ _ _ => (pg_name (i := 1) sc_law_whole.nd rfl (Or.inl rfl))) (fun _ _ _ _ _ => pts_nil) (fun _ _ _ _ _ => (pe_and (pe_callB (kIsi (K := K) rfl) (by rfl) T.f_isinstance (by decide +kernel) (pa_cons (pv 1) (pa_cons (pe_bltn (v := .ty "int") (by rfl) T.f_int boot_int rfl) pa_nil))) (pe_one (pe_not (pe_callB (kIsi (K := K) rfl) (by rfl) T.f_isinstance (by decide +kernel) (pa_cons (pv 1) (pa_cons (pe_bltn (v := .ty "bool") (by rfl) T.f_bool boot_bool rfl) pa_nil)))))))) pa_nil))))))), ?_⟩
  obtain ⟨ns, rfl, hl2, rfl⟩ := hf
  refine w_ret (d := .bl true) ((s_and (s_isiL (s_v rfl) rfl) fun _ => s_all (bs := ns.map fun _ => true) (FvS.ev ((s_lcM (xs := ns) Da.int (fun _ => .bl true) (s_v rfl) (szl hl2) (by decide) fun x hx => (s_and (s_isiI (s_v rfl) rfl) fun _ => s_not (s_isiB (s_v rfl) rfl)).is rfl).is (by rw [List.map_map]; rfl)))).is ?_) rfl
  simp
  rfl
abbrev sp_law_falls : Sp := spF 1 fun ds xs => ∃ ns : List Int, ds = [dI ns] ∧ ns.length ≤ 100000 ∧ xs = (SF.falls ns).map Da.int
abbrev N_law_falls : List Str := ["_law_row_here", "_law_place"]
theorem sc_law_falls : FnScope N_law_falls ["_law_row_here"] (defScope s_law_falls) := ⟨rfl, rfl, rfl, by decide +kernel, rfl, by decide +kernel, by decide +kernel⟩
theorem g_law_falls (T : Txt K mg) : GF P w K mg base CX0 "_law_falls" 1 ["_law_row_here"] (sp_law_falls) := by
  obtain ⟨fd, F⟩ := T.c.def_ 13 (d := d_law_falls) rfl
  refine gfF (N := N_law_falls) F T.g_law_falls (fun _ _ _ _ _ _ us hl => match us, hl with | [_], _ => rfl) sc_law_falls rfl (fun cdv A outer s H E ds d hr hl hf => ?_)
  refine ⟨_, (PSs.nox (pss_one (ps_ret (pe_lc (own := [("_law_place", 1)]) (g := gName 1) (by rfl) sc_law_falls.nd (pi_range1 (by rfl) T.f_range (pa_cons (pe_op op_sub (pe_callB (kLen (K := K) rfl) (by rfl) T.f_len PySem.boot_len (pa_cons (pv 0) pa_nil)) pe_int) pa_nil)) (blkOk_by (own := [("_law_place", 1)]) (N := N_law_falls) (sc := defScope s_law_falls) (by decide +kernel)) (fun _ _ _ _ _ => (pg_name (i := 1) sc_law_falls.nd rfl (Or.inl rfl))) (fun _ _ _ _ _ => (pts_one (pt_cmpR op_gt (pe_ix (kIx (K := K) rfl) (pv 0) (pv 1) (fun _ _ => rfl)) (pe_ix (kIx (K := K) rfl) (pv 0) (pe_op op_add (pv 1) pe_int) (fun _ _ => rfl)) (nomark _)))) (fun _ _ _ _ _ => (pe_op op_add (pv 1) pe_int)))))), ?_⟩
  obtain ⟨ns, rfl, hl2, rfl⟩ := hf
  refine w_retF ((s_lcR (fun i => if decide (ns.getD (i + 1) 0 < ns.getD i 0) = true then some (Da.int ((i : Int) + 1)) else none) (s_acons (s_II (s_lenI (s_v rfl)) s_cI) s_anil) (by omega) (by omega) (by decide) (fun i hi => ?_) fun i y hi hy => ?_).is ?_) rfl
  · have i1 : i + 1 < ns.length := by omega
    refine (s_test (s_IB (s_ixL (s_v rfl) (s_v rfl) (at_ints (by omega))) (s_ixL (s_v rfl) ((s_II (s_v rfl) s_cI).is (e := .int ((i + 1 : Nat) : Int)) rfl) (at_ints i1)))).is ?_
    cases hq : decide (ns.getD (i + 1) 0 < ns.getD i 0) <;> simp [hq]
  · split at hy
    · cases hy
      exact s_II (s_v rfl) s_cI
    · cases hy
  · rw [show ((ns.length : Int) - 1).toNat = ns.length - 1 by omega, SF.falls_eq]
    unfold SF.fallsC col
    rw [fm_if, List.map_map]
    rfl
end
section
variable {P : Program} {w : World} {K : PySem.W.Frag} {mg : Str → Option Value} {base : Heap}
theorem drop_last (w : List Int) : w.drop (w.length - 1) = w.getLast?.toList := by
  rcases List.eq_nil_or_concat w with rfl | ⟨v, x, rfl⟩
  · rfl
  · simp
theorem turned_end (w : List Int) : (SF.turned w).drop ((SF.turned w).length - 1) = w.drop (w.length - 1) := by
  rw [drop_last, drop_last, SF.turned_last]
theorem back_len (w : List Int) : (SF.back w).length = w.length := (SF.back_perm w).length_eq
theorem falls_len (w : List Int) : (SF.falls w).length ≤ w.length := by
  rw [SF.falls_eq]
  unfold SF.fallsC
  rw [List.length_map]
  exact Nat.le_trans (List.length_filter_le _ _) (by simp)
abbrev sp_law_right : Sp := spD 1 fun ds d => ∃ ns : List Int, ds = [dI ns] ∧ ns.length ≤ 200 ∧ d = .bl true
abbrev N_law_right : List Str := ["_law_row_here", "_law_kept", "_law_due", "_law_found", "_law_wrong", "_law_again", "_law_other"]
theorem sc_law_right : FnScope N_law_right ["_law_row_here"] (defScope s_law_right) := ⟨rfl, rfl, rfl, by decide +kernel, rfl, by decide +kernel, by decide +kernel⟩
theorem g_law_right (T : Txt K mg) : GF P w K mg base CX0 "_law_right" 5 ["_law_row_here"] (sp_law_right) := by
  obtain ⟨fd, F⟩ := T.c.def_ 14 (d := d_law_right) rfl
  refine gfD (N := N_law_right) F T.g_law_right (fun _ _ _ _ _ _ us hl => match us, hl with | [_], _ => rfl) sc_law_right rfl (fun cdv A outer s H E ds d hr hl hf => ?_)
  refine ⟨_, (PSs.nox (pss_cons (ps_par (i := 1) (j := 2) (by rfl) sc_law_right.nd rfl rfl (by decide) rfl rfl (pa_cons (pe_callTy (kList (K := K) rfl) (by rfl) T.f_list boot_list (pa_cons (pv 0) pa_nil)) (pa_cons (pe_g (g_law_falls T) hr pass0 (pa_cons (pv 0) pa_nil)) pa_nil)) (by rfl))
      (pss_cons (ps_par (i := 3) (j := 4) (by rfl) sc_law_right.nd rfl rfl (by decide) rfl rfl (pa_cons (pe_g (g_falls T) hr passL (pa_cons (pv 0) pa_nil)) (pa_cons (pe_g (g_swaps T) hr passL (pa_cons (pv 0) pa_nil)) pa_nil)) (by rfl))
      (pss_cons (ps_if (PW.pt (pw_or (pt_not (pt_val (pe_g (g_law_whole T) hr pass0 (pa_cons (pv 3) pa_nil)))) (pw_or (pt_cmpR (kNe (K := K) rfl hr) (pv 3) (pv 2) (nomark _)) (pw_or (pt_val (pe_callB (kIsi (K := K) rfl) (by rfl) T.f_isinstance (by decide +kernel) (pa_cons (pv 4) (pa_cons (pe_bltn (v := .ty "bool") (by rfl) T.f_bool boot_bool rfl) pa_nil)))) (pw_or (pt_cmpR (kNe (K := K) rfl hr) (pv 4) (pe_g (g_law_swaps T) hr pass0 (pa_cons (pv 0) pa_nil)) (nomark _)) (pw_or1 (pt_cmpR (kNe (K := K) rfl hr) (pv 0) (pv 1) (nomark _)))))))) (pss_one (ps_ret pe_bl)) pss_nil)
      (pss_cons (ps_expr (k_bm (K := K) rfl PySem.F.plainAttrs_list PySem.F.slot_list_append PySem.F.type_list_append mt_append (pv 3) (pa_cons pe_int pa_nil)))
      (pss_cons (ps_if (pt_cmpR (kNe (K := K) rfl hr) (pe_g (g_falls T) hr passL (pa_cons (pv 0) pa_nil)) (pv 2) (nomark _)) (pss_one (ps_ret pe_bl)) pss_nil)
      (pss_cons (ps_for PassesOwn.never rfl (pi_range1 (by rfl) T.f_range (pa_cons pe_int pa_nil)) (pg_name (i := 5) sc_law_right.nd rfl (Or.inl rfl))
      (pss_cons (ps_par (i := 3) (j := 6) (by rfl) sc_law_right.nd rfl rfl (by decide) rfl rfl (pa_cons (pe_g (g_turned T) hr passL (pa_cons (pv 0) pa_nil)) (pa_cons (pe_g (g_back T) hr passL (pa_cons (pv 0) pa_nil)) pa_nil)) (by rfl))
      (pss_cons (ps_if (PW.pt (pw_or (pt_not (pt_val (pe_g (g_law_whole T) hr pass0 (pa_cons (pv 3) pa_nil)))) (pw_or (pt_not (pt_val (pe_g (g_law_whole T) hr pass0 (pa_cons (pv 6) pa_nil)))) (pw_or1 (pt_cmpR (kNe (K := K) rfl hr) (pv 0) (pv 1) (nomark _)))))) (pss_one (ps_ret pe_bl)) pss_nil)
      (pss_cons (ps_if (PW.pt (pw_or (pt_cmpR (kNe (K := K) rfl hr) (pe_callB (kSorted (K := K) rfl) (by rfl) T.f_sorted (by decide +kernel) (pa_cons (pv 3) pa_nil)) (pe_callB (kSorted (K := K) rfl) (by rfl) T.f_sorted (by decide +kernel) (pa_cons (pv 0) pa_nil)) (nomark _)) (pw_or (pt_cmpR (kNe (K := K) rfl hr) (pe_callB (kSorted (K := K) rfl) (by rfl) T.f_sorted (by decide +kernel) (pa_cons (pv 6) pa_nil)) (pe_callB (kSorted (K := K) rfl) (by rfl) T.f_sorted (by decide +kernel) (pa_cons (pv 0) pa_nil)) (nomark _)) (pw_or1 (pt_cmpR (kNe (K := K) rfl hr) (pe_slice (kSl (K := K) rfl) (pv 3) (po_some (pe_un un_neg pe_int)) po_none) (pe_slice (kSl (K := K) rfl) (pv 0) (po_some (pe_un un_neg pe_int)) po_none) (nomark _)))))) (pss_one (ps_ret pe_bl)) pss_nil)
      (pss_cons (ps_if (PW.pt (pw_or (pt_cmpR (kNe (K := K) rfl hr) (pe_g (g_swaps T) hr passL (pa_cons (pv 3) pa_nil)) (pe_callB (kSum (K := K) rfl rfl) (by rfl) T.f_sum (by decide +kernel) (pa_cons (pv 2) pa_nil)) (nomark _)) (pw_or (pt_cmpR (kNe (K := K) rfl hr) (pe_callB (kSum (K := K) rfl rfl) (by rfl) T.f_sum (by decide +kernel) (pa_cons (pe_g (g_law_falls T) hr pass0 (pa_cons (pv 6) pa_nil)) pa_nil)) (pv 4) (nomark _)) (pw_or (pt_cmpR (kNe (K := K) rfl hr) (pe_g (g_back T) hr passL (pa_cons (pv 3) pa_nil)) (pv 0) (nomark _)) (pw_or1 (pt_cmpR (kNe (K := K) rfl hr) (pe_g (g_turned T) hr passL (pa_cons (pv 6) pa_nil)) (pv 0) (nomark _))))))) (pss_one (ps_ret pe_bl)) pss_nil)
      (pss_cons (ps_expr (k_bm (K := K) rfl PySem.F.plainAttrs_list PySem.F.slot_list_append PySem.F.type_list_append mt_append (pv 3) (pa_cons pe_int pa_nil)))
      (pss_one (ps_expr (k_bm (K := K) rfl PySem.F.plainAttrs_list PySem.F.slot_list_append PySem.F.type_list_append mt_append (pv 6) (pa_cons pe_int pa_nil))))))))))
      (pss_one (ps_ret pe_bl))))))))), ?_⟩
  obtain ⟨ns, rfl, hl2, rfl⟩ := hf
  have lf := falls_len ns
  refine w_seq (w_parFF (s_list (ds := ns.map .int) (s_v rfl)) (s_fcall (s_acons (s_v rfl) s_anil) ⟨ns, rfl, by omega, rfl⟩) (flat_ints _) (flat_ints _) (by decide) ?_)
  refine w_seq (w_parFD (s_fcallX (s_acons (s_v rfl) s_anil) ⟨ns, rfl, hl2, rfl⟩) (s_callX (s_acons (s_v rfl) s_anil) ⟨ns, rfl, hl2, rfl⟩) (flat_ints _) trivial ?_)
  refine w_seq (w_ifF ((s_tor (s_tnot (s_B (s_call (s_acons (s_vo rfl) s_anil) ⟨_, rfl, by omega, rfl⟩))) fun _ => s_tor (s_test (s_neL (s_vo rfl) (s_vo rfl))) fun _ => s_tor (s_B (s_isiB (s_v rfl) rfl)) fun _ => s_tor (s_test (s_neI (s_v rfl) (s_call (s_acons (s_v rfl) s_anil) ⟨ns, rfl, by omega, rfl⟩))) fun _ => s_test (s_neL (s_v rfl) (s_vo rfl))).is (by simp [Da.isB])) (w_next ?_))
  refine w_seq (w_appendI (i := 3) rfl s_cI (szlt (b := 300) (by omega)) ?_)
  refine w_seq (w_ifF ((s_test (s_neL (s_fcallX (s_acons (s_v rfl) s_anil) ⟨ns, rfl, hl2, rfl⟩).ev (s_vo rfl))).is (by simp)) (w_next ?_))
  refine w_seq (w_forR (k := 2) (fun i a => ∃ s3 s5 s6 : Sl, a = [.d (dI ns), .o (ns.map .int), .o ((SF.falls ns).map .int), s3, .d (.int (SF.inv ns)), s5, s6]) (s_acons s_cI s_anil) (by decide) (by decide) ⟨_, _, _, rfl⟩ (fun i a hi ia => ?_) fun a ia => ?_)
  · obtain ⟨s3, s5, s6, rfl⟩ := ia
    have l1 := SF.turned_len ns
    have l2 := back_len ns
    refine w_seq (w_parFF (s_fcallX (s_acons (s_v rfl) s_anil) ⟨ns, rfl, hl2, rfl⟩) (s_fcallX (s_acons (s_v rfl) s_anil) ⟨ns, rfl, hl2, rfl⟩) (flat_ints _) (flat_ints _) (by decide) ?_)
    refine w_seq (w_ifF ((s_tor (s_tnot (s_B (s_call (s_acons (s_vo rfl) s_anil) ⟨_, rfl, by omega, rfl⟩))) fun _ => s_tor (s_tnot (s_B (s_call (s_acons (s_vo rfl) s_anil) ⟨_, rfl, by omega, rfl⟩))) fun _ => s_test (s_neL (s_v rfl) (s_vo rfl))).is (by simp)) (w_next ?_))
    refine w_seq (w_ifF ((s_tor (s_test (s_neL (s_sorted (s_vo rfl)).ev (s_sorted (s_v rfl)).ev)) fun _ => s_tor (s_test (s_neL (s_sorted (s_vo rfl)).ev (s_sorted (s_v rfl)).ev)) fun _ => s_test (s_neL (s_slI (s_vo rfl) (s_osome (s_neg s_cI)) s_onone).ev (s_slI (s_v rfl) (s_osome (s_neg s_cI)) s_onone).ev)).is ?_) (w_next ?_))
    · rw [srt_eq (SF.turned_perm ns), srt_eq (SF.back_perm ns), cut_last, cut_last, turned_end]
      simp
    refine w_seq (w_ifF ((s_tor (s_test (s_neI (s_callX (s_acons (s_vo rfl) s_anil) ⟨_, rfl, by omega, rfl⟩) (s_sum (s_vo rfl)))) fun _ => s_tor (s_test (s_neI (s_sum (s_fcall (s_acons (s_vo rfl) s_anil) ⟨_, rfl, by omega, rfl⟩).ev) (s_v rfl))) fun _ => s_tor (s_test (s_neL (s_fcallX (s_acons (s_vo rfl) s_anil) ⟨_, rfl, by omega, rfl⟩).ev (s_v rfl))) fun _ => s_test (s_neL (s_fcallX (s_acons (s_vo rfl) s_anil) ⟨_, rfl, by omega, rfl⟩).ev (s_v rfl))).is ?_) (w_next ?_))
    · have e1 : (SF.inv (SF.turned ns) : Int) = (SF.falls ns).sum := SF.inv_turned ns
      have e2 : (SF.falls (SF.back ns)).sum = SF.inv ns := SF.maj_back ns
      rw [e1, e2, SF.back_turned, SF.turned_back]
      simp
    refine w_seq (w_appendI (i := 3) rfl s_cI (szlt (b := 300) (by omega)) ?_)
    exact w_appendI (i := 6) rfl s_cI (szlt (b := 300) (by omega)) ⟨_, _, _, rfl⟩
  · obtain ⟨s3, s5, s6, rfl⟩ := ia
    exact w_ret s_cB rfl
end
section
variable {P : Program} {w : World} {K : PySem.W.Frag} {mg : Str → Option Value} {base : Heap}
/-! ### all orders of few -/
namespace LM
def putAt (x : Int) (o : List Int) (p : Nat) : List Int := o.take p ++ [x] ++ o.drop p
def add1 (m : List (List Int)) (s : List Int) : List (List Int) := if s ∈ m then m else m ++ [s]
def ins (x : Int) (o : List Int) (m : List (List Int)) (n : Nat) : List (List Int) := (List.range n).foldl (fun m p => add1 m (putAt x o p)) m
def step (x : Int) (f : List (List Int)) (m : List (List Int)) : List (List Int) := f.foldl (fun m o => ins x o m (o.length + 1)) m
def orders (ns : List Int) : List (List Int) := ns.foldl (fun f x => step x f []) [[]]
theorem ins_succ (x : Int) (o : List Int) (m : List (List Int)) (n : Nat) : ins x o m (n + 1) = add1 (ins x o m n) (putAt x o n) := by
  unfold ins
  rw [List.range_succ, List.foldl_append]
  rfl
theorem step_snoc (x : Int) (f : List (List Int)) (o : List Int) (m : List (List Int)) : step x (f ++ [o]) m = ins x o (step x f m) (o.length + 1) := by
  unfold step
  rw [List.foldl_append]
  rfl
theorem orders_snoc (ns : List Int) (x : Int) : orders (ns ++ [x]) = step x (orders ns) [] := by
  unfold orders
  rw [List.foldl_append]
  rfl
theorem add1_len (m : List (List Int)) (s : List Int) : (add1 m s).length ≤ m.length + 1 := by
  unfold add1
  split <;> simp
theorem ins_len (x : Int) (o : List Int) (m : List (List Int)) (n : Nat) : (ins x o m n).length ≤ m.length + n := by
  induction n with
  | zero => exact Nat.le_refl _
  | succ n ih => rw [ins_succ]; exact Nat.le_trans (add1_len _ _) (by omega)
theorem mem_add1 {m : List (List Int)} {s t : List Int} : t ∈ add1 m s ↔ t ∈ m ∨ t = s := by
  unfold add1
  split
  · rename_i h
    refine ⟨.inl, fun q => q.elim id fun e => by rw [e]; exact h⟩
  · simp
theorem add1_nodup {m : List (List Int)} {s : List Int} (h : m.Nodup) : (add1 m s).Nodup := by
  unfold add1
  split
  · exact h
  · rename_i hs
    rw [List.nodup_append]
    exact ⟨h, by simp, fun a ha b hb => by
      have e : b = s := by simpa using hb
      subst e
      intro z
      subst z
      exact hs ha⟩
theorem mem_ins {x : Int} {o : List Int} {m : List (List Int)} {n : Nat} {t : List Int} : t ∈ ins x o m n ↔ t ∈ m ∨ ∃ p, p < n ∧ t = putAt x o p := by
  induction n with
  | zero => simp [ins]
  | succ n ih =>
    rw [ins_succ, mem_add1, ih]
    constructor
    · rintro ((h | ⟨p, h1, h2⟩) | h)
      · exact .inl h
      · exact .inr ⟨p, by omega, h2⟩
      · exact .inr ⟨n, by omega, h⟩
    · rintro (h | ⟨p, h1, h2⟩)
      · exact .inl (.inl h)
      · by_cases e : p = n
        · subst e; exact .inr h2
        · exact .inl (.inr ⟨p, by omega, h2⟩)
theorem ins_nodup {x : Int} {o : List Int} {m : List (List Int)} (h : m.Nodup) (n : Nat) : (ins x o m n).Nodup := by
  induction n with
  | zero => exact h
  | succ n ih => rw [ins_succ]; exact add1_nodup ih
theorem mem_step {x : Int} {t : List Int} : ∀ {f m : List (List Int)}, t ∈ step x f m ↔ t ∈ m ∨ ∃ o ∈ f, ∃ p, p < o.length + 1 ∧ t = putAt x o p
  | [], m => by simp [step]
  | o :: f, m => by
    have e : step x (o :: f) m = step x f (ins x o m (o.length + 1)) := rfl
    rw [e, mem_step (f := f), mem_ins]
    constructor
    · rintro ((h | h) | ⟨o', h1, h2⟩)
      · exact .inl h
      · exact .inr ⟨o, by simp, h⟩
      · exact .inr ⟨o', by simp [h1], h2⟩
    · rintro (h | ⟨o', h1, h2⟩)
      · exact .inl (.inl h)
      · rcases List.mem_cons.mp h1 with rfl | h1
        · exact .inl (.inr h2)
        · exact .inr ⟨o', h1, h2⟩
theorem step_nodup {x : Int} : ∀ {f m : List (List Int)}, m.Nodup → (step x f m).Nodup
  | [], m, h => h
  | o :: f, m, h => step_nodup (f := f) (ins_nodup h _)
theorem putAt_perm (x : Int) (o : List Int) (p : Nat) : (putAt x o p).Perm (o ++ [x]) := by
  unfold putAt
  have h : (o.take p ++ [x] ++ o.drop p).Perm (o.take p ++ o.drop p ++ [x]) := by
    rw [List.append_assoc, List.append_assoc]
    exact List.Perm.append_left _ List.perm_append_comm
  rwa [List.take_append_drop] at h
theorem orders_nodup (ns : List Int) : (orders ns).Nodup := by
  induction ns using SF.snoc_ind with
  | h0 => simp [orders]
  | hs w x _ => rw [orders_snoc]; exact step_nodup (by simp)
theorem mem_orders (ns : List Int) : ∀ t, t ∈ orders ns ↔ t.Perm ns := by
  induction ns using SF.snoc_ind with
  | h0 => intro t; simp [orders]
  | hs w x ih =>
    intro t
    rw [orders_snoc, mem_step]
    constructor
    · rintro (h | ⟨o, ho, p, hp, rfl⟩)
      · cases h
      · exact (putAt_perm x o p).trans ((ih o).mp ho |>.append_right _)
    · intro h
      have hx : x ∈ t := h.mem_iff.mpr (by simp)
      obtain ⟨l, r, rfl⟩ := List.append_of_mem hx
      have hp : (l ++ r).Perm w := by
        have h1 : (x :: (l ++ r)).Perm (x :: w) := (List.perm_middle.symm.trans h).trans (List.perm_append_comm (l₁ := w) (l₂ := [x]))
        exact h1.cons_inv
      refine .inr ⟨l ++ r, (ih _).mpr hp, l.length, by simp; omega, ?_⟩
      unfold putAt
      simp
theorem orders_turned (ns : List Int) : ((orders ns).map SF.turned).Perm (orders ns) := by
  have nd : ((orders ns).map SF.turned).Nodup := List.pairwise_map.mpr ((orders_nodup ns).imp fun h z => h (SF.turned_inj z))
  refine (List.perm_ext_iff_of_nodup nd (orders_nodup ns)).mpr fun t => ?_
  rw [mem_orders, List.mem_map]
  constructor
  · rintro ⟨o, ho, rfl⟩
    exact (SF.turned_perm o).trans ((mem_orders ns o).mp ho)
  · intro h
    exact ⟨SF.back t, (mem_orders ns _).mpr ((SF.back_perm t).trans h), SF.turned_back t⟩
theorem orders_len (ns : List Int) (h : ns.length ≤ 4) : ∀ i, i ≤ ns.length → (orders (ns.take i)).length ≤ 5 ^ i := by
  intro i
  induction i with
  | zero => intro _; simp [orders]
  | succ i ih =>
    intro hi
    have hl : i < ns.length := by omega
    rw [List.take_add_one, List.getElem?_eq_getElem hl, Option.toList_some, orders_snoc]
    have key : ∀ (f m : List (List Int)), (∀ o ∈ f, o.length ≤ 4) → (step ns[i] f m).length ≤ m.length + f.length * 5 := by
      intro f
      induction f with
      | nil => intro m _; simp [step]
      | cons o f ihf =>
        intro m hm
        have e : step ns[i] (o :: f) m = step ns[i] f (ins ns[i] o m (o.length + 1)) := rfl
        have h1 := ihf (ins ns[i] o m (o.length + 1)) fun o' ho' => hm o' (by simp [ho'])
        have h2 := ins_len ns[i] o m (o.length + 1)
        have h3 := hm o (by simp)
        rw [e, List.length_cons]
        omega
    have h1 := key (orders (ns.take i)) [] fun o ho => by
      rw [((mem_orders _ o).mp ho).length_eq, List.length_take]
      omega
    have h2 := ih (by omega)
    rw [Nat.pow_succ]
    simp at h1
    omega
end LM
abbrev sp_law_orders : Sp := spD 1 fun ds d => ∃ ns : List Int, ds = [dI ns] ∧ ns.length ≤ 4 ∧ d = .lst ((LM.orders ns).map dI)
abbrev N_law_orders : List Str := ["_law_row_here", "_law_found", "_law_one", "_law_more", "_law_order", "_law_place", "_law_some"]
theorem sc_law_orders : FnScope N_law_orders ["_law_row_here"] (defScope s_law_orders) := ⟨rfl, rfl, rfl, by decide +kernel, rfl, by decide +kernel, by decide +kernel⟩
theorem g_law_orders (T : Txt K mg) : GF P w K mg base CX0 "_law_orders" 1 ["_law_row_here"] (sp_law_orders) := by
  obtain ⟨fd, F⟩ := T.c.def_ 15 (d := d_law_orders) rfl
  refine gfD (N := N_law_orders) F T.g_law_orders (fun _ _ _ _ _ _ us hl => match us, hl with | [_], _ => rfl) sc_law_orders rfl (fun cdv A outer s H E ds d hr hl hf => ?_)
  refine ⟨_, (PSs.nox (pss_cons (ps_set (i := 1) sc_law_orders.nd rfl (Or.inl rfl) (pe_lst (pa_cons (pe_lst pa_nil) pa_nil)))
      (pss_cons (ps_for PassesOwn.never rfl (k_list (K := K) rfl (pv 0)) (pg_name (i := 2) sc_law_orders.nd rfl (Or.inl rfl))
      (pss_cons (ps_set (i := 3) sc_law_orders.nd rfl (Or.inl rfl) (pe_lst pa_nil))
      (pss_cons (ps_for PassesOwn.never rfl (k_list (K := K) rfl (pv 1)) (pg_name (i := 4) sc_law_orders.nd rfl (Or.inl rfl))
      (pss_one (ps_for PassesOwn.never rfl (pi_range1 (by rfl) T.f_range (pa_cons (pe_op op_add (pe_callB (kLen (K := K) rfl) (by rfl) T.f_len PySem.boot_len (pa_cons (pv 4) pa_nil)) pe_int) pa_nil)) (pg_name (i := 5) sc_law_orders.nd rfl (Or.inl rfl))
      (pss_cons (ps_set (i := 6) sc_law_orders.nd rfl (Or.inl rfl) (pe_op op_catR (pe_op op_catR (pe_slice (kSl (K := K) rfl) (pv 4) po_none (po_some (pv 5))) (pe_lst (pa_cons (pv 2) pa_nil))) (pe_slice (kSl (K := K) rfl) (pv 4) (po_some (pv 5)) po_none)))
      (pss_one (ps_if (pt_cmpR (kNotIn (K := K) rfl hr) (pv 6) (pv 3) rfl) (pss_one (ps_expr (k_bm (K := K) rfl PySem.F.plainAttrs_list PySem.F.slot_list_append PySem.F.type_list_append mt_append (pv 3) (pa_cons (pv 6) pa_nil)))) pss_nil))))))
      (pss_one (ps_set (i := 1) sc_law_orders.nd rfl (Or.inl rfl) (pv 3))))))
      (pss_one (ps_ret (pv 1)))))), ?_⟩
  obtain ⟨ns, rfl, hl2, rfl⟩ := hf
  refine w_seq (w_setFH (xs := [[]].map dI) (s_lst (s_acons (s_lst s_anil (Nat.zero_le _)).ev s_anil) (by decide)) (w_froz (i := 1) rfl ?_))
  refine w_seq (w_forL (fun i a => ∃ s2 s3 s4 s5 s6 : Sl, a = [.d (dI ns), .d (.lst ((LM.orders (ns.take i)).map dI)), s2, s3, s4, s5, s6]) (s_v rfl) ⟨_, _, _, _, _, rfl⟩ (fun i x a hx ia => ⟨_, g_name, ?_⟩) fun a ia => ?_)
  · obtain ⟨s2, s3, s4, s5, s6, rfl⟩ := ia
    obtain ⟨z, hz, rfl⟩ := get_int hx
    have hi := lt_of_get hz
    have ho : ∀ o ∈ LM.orders (ns.take i), o.length ≤ 4 := fun o h => by
      rw [((LM.mem_orders _ o).mp h).length_eq, List.length_take]; omega
    have hb := LM.orders_len ns hl2 i (by omega)
    have h5 : 5 ^ i ≤ 625 := Nat.le_trans (Nat.pow_le_pow_right (by decide) (show i ≤ 4 by omega)) (by decide)
    have hn : LM.orders (ns.take (i + 1)) = LM.step z (LM.orders (ns.take i)) [] := by rw [List.take_add_one, hz]; exact LM.orders_snoc _ _
    generalize LM.orders (ns.take i) = fs at ho hb hn
    refine w_seq (w_setFH (xs := ([] : List (List Int)).map dI) (s_lst s_anil (Nat.zero_le _)) ?_)
    refine w_seq (w_forL (fun j a => ∃ s4 s5 s6 : Sl, a = [.d (dI ns), .d (.lst (fs.map dI)), .d (.int z), .o ((LM.step z (fs.take j) []).map dI), s4, s5, s6] ∧ (LM.step z (fs.take j) []).length ≤ 5 * j) (s_v rfl) ⟨_, _, _, rfl, Nat.le_refl _⟩ (fun j x a hx ia => ⟨_, g_name, ?_⟩) fun a ia => ?_)
    · obtain ⟨s4, s5, s6, rfl, hm⟩ := ia
      rw [List.getElem?_map] at hx
      cases hq : fs[j]? with
      | none => rw [hq] at hx; cases hx
      | some o =>
        rw [hq] at hx
        cases hx
        have hjl := lt_of_get hq
        have hol := ho o (List.mem_of_getElem? hq)
        have hs : LM.step z (fs.take (j + 1)) [] = LM.ins z o (LM.step z (fs.take j) []) (o.length + 1) := by rw [List.take_add_one, hq]; exact LM.step_snoc _ _ _ _
        generalize LM.step z (fs.take j) [] = ms at hm hs
        refine w_forR (k := (o.length : Int) + 1) (fun p a => ∃ s5 s6 : Sl, a = [.d (dI ns), .d (.lst (fs.map dI)), .d (.int z), .o ((LM.ins z o ms p).map dI), .d (dI o), s5, s6]) (s_acons (s_II (s_lenI (s_v rfl)) s_cI) s_anil) (by omega) (by omega) ⟨_, _, rfl⟩ (fun p a hp ia => ?_) fun a ia => ?_
        · obtain ⟨s5, s6, rfl⟩ := ia
          have hil := LM.ins_len z o ms p
          refine w_seq (w_setFI (ns := LM.putAt z o p) ((s_catI (s_catI (s_slI (s_v rfl) s_onone (s_osome (s_v rfl))).ev (s_one (s_v rfl)).ev ?_).ev (s_slI (s_v rfl) (s_osome (s_v rfl)) s_onone).ev ?_).is ?_) ?_)
          · rw [cut_to]; exact szl (b := 5) (by simp; omega)
          · rw [cut_to, cut_from]; exact szl (b := 15) (by simp; omega)
          · rw [cut_to, cut_from]; rfl
          · refine w_if (s_test (s_notIn (s_vo rfl) (s_vo rfl))) (fun h => w_froz (i := 6) rfl (w_appendH (i := 3) rfl (s_v rfl) (by rw [List.length_map]; exact szlt (b := 5 * 625 + 5) (by omega)) ⟨_, _, by rw [LM.ins_succ, LM.add1, if_neg (by simpa using h), List.map_append]; rfl⟩)) fun h => w_next ⟨_, _, by rw [LM.ins_succ, LM.add1, if_pos (by simpa using h)]; rfl⟩
        · obtain ⟨s5, s6, rfl⟩ := ia
          rw [show ((o.length : Int) + 1).toNat = o.length + 1 by omega, ← hs]
          have := LM.ins_len z o ms (o.length + 1)
          rw [← hs] at this
          exact ⟨_, _, _, rfl, by omega⟩
    · obtain ⟨s4, s5, s6, rfl, hm⟩ := ia
      rw [List.length_map, List.take_length]
      refine w_froz (i := 3) rfl (w_setH (s_v rfl) ⟨_, _, _, _, _, by rw [hn]; rfl⟩)
  · obtain ⟨s2, s3, s4, s5, s6, rfl⟩ := ia
    rw [List.length_map, List.take_length]
    exact w_ret (s_v rfl) rfl
end
section
variable {P : Program} {w : World} {K : PySem.W.Frag} {mg : Str → Option Value} {base : Heap}
abbrev sp_law (K : PySem.W.Frag) : Sp := spD 1 fun ds d => ∃ sc : List Int, ds = [.sc K sc] ∧ sc.length ≤ 63 ∧ (∀ c ∈ sc, SB c) ∧ d = .bl true
abbrev N_law : List Str := ["_law_script", "_law_whole_here", "_law_row_here", "_law_wide", "_law_orders_here", "_law_one", "_law_order"]
theorem sc_law : FnScope N_law ["_law_script"] (defScope s_law) := ⟨rfl, rfl, rfl, by decide +kernel, rfl, by decide +kernel, by decide +kernel⟩
theorem g_law (T : Txt K mg) : GF P w K mg base CX0 "law" 6 ["_law_script"] (sp_law K) := by
  obtain ⟨fd, F⟩ := T.c.def_ 16 (d := d_law) rfl
  refine gfD (N := N_law) F T.g_law (fun _ _ _ _ _ _ us hl => match us, hl with | [_], _ => rfl) sc_law rfl (fun cdv A outer s H E ds d hr hl hf => ?_)
  refine ⟨_, (PSs.nox (pss_cons (ps_set (i := 1) sc_law.nd rfl (Or.inl rfl) (pe_callB (kSum (K := K) rfl rfl) (by rfl) T.f_sum (by decide +kernel) (pa_cons (pe_slice (kSl (K := K) rfl) (pv 0) po_none (po_some pe_int)) pa_nil)))
      (pss_cons (ps_set (i := 2) sc_law.nd rfl (Or.inl rfl) (pe_g (g_law_row T) hr pass0 (pa_cons (pv 0) (pa_cons pe_int pa_nil))))
      (pss_cons (ps_if (PW.pt (pw_or (pt_not (pt_val (pe_g (g_law_right T) hr pass0 (pa_cons (pv 2) pa_nil)))) (pw_or (pt_not (pt_val (pe_g (g_law_right T) hr pass0 (pa_cons (pe_slice (kSl (K := K) rfl) (k_revL (K := K) rfl (pv 2)) po_none (po_some pe_int)) pa_nil)))) (pw_or1 (pt_not (pt_val (pe_g (g_law_right T) hr pass0 (pa_cons (pe_slice (kSl (K := K) rfl) (pe_g (g_law_row T) hr pass0 (pa_cons (pv 0) (pa_cons pe_int pa_nil))) po_none (po_some pe_int)) pa_nil)))))))) (pss_one (ps_ret pe_bl)) pss_nil)
      (pss_cons (ps_if (pt_cmpR (kEq (K := K) rfl hr) (pe_op op_mod (pv 1) pe_int) pe_int (nomark _)) (pss_cons (ps_set (i := 3) sc_law.nd rfl (Or.inl rfl) (pe_g (g_law_row T) hr pass0 (pa_cons (pv 0) (pa_cons pe_int pa_nil))))
      (pss_cons (ps_set (i := 3) sc_law.nd rfl (Or.inl rfl) (pe_slice (kSl (K := K) rfl) (pe_op op_catR (pe_op op_catR (pe_op op_catR (pv 3) (pe_lc (own := [("_law_one", 5)]) (g := gName 5) (by rfl) sc_law.nd (k_list (K := K) rfl (pv 3)) (blkOk_by (own := [("_law_one", 5)]) (N := N_law) (sc := defScope s_law) (by decide +kernel)) (fun _ _ _ _ _ => (pg_name (i := 5) sc_law.nd rfl (Or.inl rfl))) (fun _ _ _ _ _ => pts_nil) (fun _ _ _ _ _ => (pe_op op_add (pv 5) pe_int)))) (k_revL (K := K) rfl (pv 3))) (pv 3)) po_none (po_some pe_int)))
      (pss_one (ps_if (PW.pt (pw_or (pt_cmpR (kNe (K := K) rfl hr) (pe_g (g_swaps T) hr passL (pa_cons (pe_g (g_turned T) hr passL (pa_cons (pv 3) pa_nil)) pa_nil)) (pe_callB (kSum (K := K) rfl rfl) (by rfl) T.f_sum (by decide +kernel) (pa_cons (pe_g (g_falls T) hr passL (pa_cons (pv 3) pa_nil)) pa_nil)) (nomark _)) (pw_or (pt_cmpR (kNe (K := K) rfl hr) (pe_g (g_back T) hr passL (pa_cons (pe_g (g_turned T) hr passL (pa_cons (pv 3) pa_nil)) pa_nil)) (pv 3) (nomark _)) (pw_or1 (pt_cmpR (kNe (K := K) rfl hr) (pe_g (g_turned T) hr passL (pa_cons (pe_g (g_back T) hr passL (pa_cons (pv 3) pa_nil)) pa_nil)) (pv 3) (nomark _)))))) (pss_one (ps_ret pe_bl)) pss_nil)))) pss_nil)
      (pss_cons (ps_set (i := 4) sc_law.nd rfl (Or.inl rfl) (pe_g (g_law_orders T) hr pass0 (pa_cons (pe_slice (kSl (K := K) rfl) (pe_slice (kSl (K := K) rfl) (pv 2) (po_some (pe_op op_mod (pv 1) (pe_op op_add pe_int (pe_callB (kLen (K := K) rfl) (by rfl) T.f_len PySem.boot_len (pa_cons (pv 2) pa_nil))))) po_none) po_none (po_some pe_int)) pa_nil)))
      (pss_cons (ps_if (pt_cmpR (kNe (K := K) rfl hr) (pe_callB (kSortedLL (K := K) rfl (unitsS hr)) (by rfl) T.f_sorted (by decide +kernel) (pa_cons (pe_lc (own := [("_law_order", 6)]) (g := gName 6) (by rfl) sc_law.nd (k_list (K := K) rfl (pv 4)) (blkOk_by (own := [("_law_order", 6)]) (N := N_law) (sc := defScope s_law) (by decide +kernel)) (fun _ _ _ _ _ => (pg_name (i := 6) sc_law.nd rfl (Or.inl rfl))) (fun _ _ _ _ _ => pts_nil) (fun _ _ _ _ _ => (pe_g (g_turned T) hr passL (pa_cons (pv 6) pa_nil)))) pa_nil)) (pe_callB (kSortedLL (K := K) rfl (unitsS hr)) (by rfl) T.f_sorted (by decide +kernel) (pa_cons (pv 4) pa_nil)) (nomark _)) (pss_one (ps_ret pe_bl)) pss_nil)
      (pss_cons (ps_if (PW.pt (pw_or (pt_cmpR (kNe (K := K) rfl hr) (pe_g (g_swaps T) hr passL (pa_cons (pe_g (g_turned T) hr passL (pa_cons (pe_lst (pa_cons pe_int (pa_cons pe_int (pa_cons pe_int pa_nil)))) pa_nil)) pa_nil)) pe_int (nomark _)) (pw_or1 (pt_cmpR (kNe (K := K) rfl hr) (pe_g (g_swaps T) hr passL (pa_cons (pe_g (g_turned T) hr passL (pa_cons (pe_lst (pa_cons pe_int (pa_cons pe_int (pa_cons pe_int pa_nil)))) pa_nil)) pa_nil)) pe_int (nomark _))))) (pss_one (ps_ret pe_bl)) pss_nil)
      (pss_one (ps_ret (pe_and (pe_cmpR (kEq (K := K) rfl hr) (pe_g (g_turned T) hr passL (pa_cons (pe_lst pa_nil) pa_nil)) (pe_lst pa_nil) (nomark _)) (pe_and (pe_cmpR (kEq (K := K) rfl hr) (pe_g (g_back T) hr passL (pa_cons (pe_lst (pa_cons pe_int pa_nil)) pa_nil)) (pe_lst (pa_cons pe_int pa_nil)) (nomark _)) (pe_and (pe_cmpR (kEq (K := K) rfl hr) (pe_g (g_swaps T) hr passL (pa_cons (pe_lst (pa_cons pe_int (pa_cons pe_int (pa_cons pe_int pa_nil)))) pa_nil)) pe_int (nomark _)) (pe_one (pe_cmpR (kEq (K := K) rfl hr) (pe_g (g_falls T) hr passL (pa_cons (pe_lst (pa_cons pe_int (pa_cons pe_int (pa_cons pe_int (pa_cons pe_int (pa_cons pe_int pa_nil)))))) pa_nil)) (pe_lst (pa_cons pe_int (pa_cons pe_int pa_nil))) (nomark _)))))))))))))))), ?_⟩
  obtain ⟨sc, rfl, hsl, hb, rfl⟩ := hf
  refine w_seq (w_setI (s_sum (s_slS (s_v rfl) s_onone (s_osome s_cI)).ev) ?_)
  have ecut : cut sc none (some 63) = sc.take 63 := cut_to sc 63
  rw [ecut]
  refine w_seq (w_setFI (s_fcall (s_acons (s_v rfl) (s_acons s_cI s_anil)) ⟨sc, 0, rfl, hb, by decide, by decide, rfl⟩) ?_)
  have l0 := LM.row_len sc 0
  have l1 := LM.row_len sc 1
  have l2 := LM.row_len sc 2
  have c20 : ∀ ns : List Int, cut ns none (some 20) = ns.take 20 := fun ns => cut_to ns 20
  have c9 : ∀ ns : List Int, cut ns none (some 9) = ns.take 9 := fun ns => cut_to ns 9
  have c4 : ∀ ns : List Int, cut ns none (some 4) = ns.take 4 := fun ns => cut_to ns 4
  have c200 : ∀ ns : List Int, cut ns none (some 200) = ns.take 200 := fun ns => cut_to ns 200
  refine w_seq (w_ifF ((s_tor (s_tnot (s_B (s_call (s_acons (s_vo rfl) s_anil) ⟨_, rfl, by omega, rfl⟩))) fun _ => s_tor (s_tnot (s_B (s_call (s_acons (s_slI (s_revI (s_vo rfl)).ev s_onone (s_osome s_cI)).ev s_anil) ⟨_, rfl, by rw [c20, List.length_take]; omega, rfl⟩))) fun _ => s_tnot (s_B (s_call (s_acons (s_slI (s_fcall (s_acons (s_v rfl) (s_acons s_cI s_anil)) ⟨sc, 1, rfl, hb, by decide, by decide, rfl⟩).ev s_onone (s_osome s_cI)).ev s_anil) ⟨_, rfl, by rw [c9, List.length_take]; omega, rfl⟩))).is rfl) (w_next ?_))
  -- seldom some two hundred
  refine w_cutL (bs := [.d (.sc K sc), .d (.int (sc.take 63).sum), .o ((LM.row sc 0).map .int), .u, .u, .u, .u]) (w_if (s_test (s_eqI (s_IC (s_v rfl) s_cI (by decide : (0 : Int) < 64)) s_cI)) (fun _ => ?_) fun _ => w_next (Le.refl _)) ?_
  · refine w_seq (w_setFI (s_fcall (s_acons (s_v rfl) (s_acons s_cI s_anil)) ⟨sc, 2, rfl, hb, by decide, by decide, rfl⟩) ?_)
    generalize LM.row sc 2 = ws at l2
    refine w_seq (w_setFI (s_slI (FvS.ev (s_catI (s_catI (s_catI (s_vo rfl) (ms := ws.map (· + 1)) (FvS.ev ((s_lcI (fun _ => true) (fun z => .int (z + 1)) (s_vo rfl) (szl (b := 63) l2) (by decide) (fun _ _ => s_yes) fun z _ _ => s_II (s_v rfl) s_cI).is (by rw [List.filter_eq_self.mpr (by simp), List.map_map]; rfl))) ?_).ev (s_revI (s_vo rfl)).ev ?_).ev (s_vo rfl) ?_)) s_onone (s_osome s_cI)) ?_)
    · exact szl (b := 126) (by simp; omega)
    · exact szl (b := 252) (by simp; omega)
    · exact szl (b := 252) (by simp; omega)
    rw [c200]
    have hw : ((ws ++ ws.map (· + 1) ++ ws.reverse ++ ws).take 200).length ≤ 200 := by rw [List.length_take]; omega
    generalize (ws ++ ws.map (· + 1) ++ ws.reverse ++ ws).take 200 = vs at hw
    have e1 : (SF.inv (SF.turned vs) : Int) = (SF.falls vs).sum := SF.inv_turned vs
    have t1 := SF.turned_len vs
    have t2 := back_len vs
    refine w_ifF ((s_tor (s_test (s_neI (c_swaps (c_turned (s_vo rfl) hw).ev (by omega)) (s_sum (c_falls (s_vo rfl) hw).ev))) fun _ => s_tor (s_test (s_neL (c_back (c_turned (s_vo rfl) hw).ev (by omega)).ev (s_vo rfl))) fun _ => s_test (s_neL (c_turned (c_back (s_vo rfl) hw).ev (by omega)).ev (s_vo rfl))).is (by rw [e1, SF.back_turned, SF.turned_back]; simp)) (w_next ?_)
    exact le_c (le_c (le_c (le_u (le_u (le_u (le_u le_nil))))))
  generalize LM.row sc 0 = r0 at l0
  refine w_froz (i := 2) rfl (w_seq (w_setH (d := .lst ((LM.orders ((r0.drop ((sc.take 63).sum % (1 + (r0.length : Int))).toNat).take 4)).map dI)) (s_call (s_acons (s_slI (s_slI (s_v rfl) (s_osome (s_IC (s_v rfl) (s_II s_cI (s_lenI (s_v rfl))) ?_)) s_onone).ev s_onone (s_osome s_cI)).ev s_anil) ⟨(r0.drop ((sc.take 63).sum % (1 + (r0.length : Int))).toNat).take 4, ?_, ?_, rfl⟩) ?_))
  · show (0 : Int) < 1 + r0.length
    omega
  · rw [c4]
    congr 4
    have h0 : 0 ≤ (sc.take 63).sum % (1 + (r0.length : Int)) := Int.emod_nonneg _ (by omega)
    generalize (sc.take 63).sum % (1 + (r0.length : Int)) = z at h0
    obtain ⟨n, rfl⟩ : ∃ n : Nat, z = n := ⟨z.toNat, by omega⟩
    rw [cut_from]
    rfl
  · rw [List.length_take]; omega
  have o4 : ((r0.drop ((sc.take 63).sum % (1 + (r0.length : Int))).toNat).take 4).length ≤ 4 := by rw [List.length_take]; omega
  generalize (r0.drop ((sc.take 63).sum % (1 + (r0.length : Int))).toNat).take 4 = r4 at o4
  have ol : (LM.orders r4).length ≤ 625 := by
    have h := LM.orders_len r4 o4 r4.length (Nat.le_refl _)
    rw [List.take_length] at h
    exact Nat.le_trans h (Nat.le_trans (Nat.pow_le_pow_right (by decide) o4) (by decide))
  refine w_seq (w_ifF ((s_test (s_neLL (s_sortedLL (rows := (LM.orders r4).map SF.turned) ((s_lcM (xs := LM.orders r4) dI (fun o => dI (SF.turned o)) (s_v rfl) (szl ol) (by decide) fun o ho => (c_turned (s_v rfl) ?_).ev).is ?_).ev).ev (s_sortedLL (s_v rfl)).ev)).is ?_) (w_next ?_))
  · rw [((LM.mem_orders r4 o).mp ho).length_eq]; omega
  · rw [List.map_map]; rfl
  · rw [srtL_eq (LM.orders_turned r4)]; simp
  refine w_seq (w_ifF ((s_tor (s_test (s_neI (c_swaps (c_turned s_n3.ev (by decide)).ev (by decide +kernel)) s_cI)) fun _ => s_test (s_neI (c_swaps (c_turned s_n3.ev (by decide)).ev (by decide +kernel)) s_cI)).is (by decide +kernel)) (w_next ?_))
  exact w_ret (d := .bl true) ((s_and (s_eqL (c_turned s_n0.ev (by decide)).ev s_n0.ev) fun _ => s_and (s_eqL (c_back s_n1.ev (by decide)).ev s_n1.ev) fun _ => s_and (s_eqI (c_swaps s_n3.ev (by decide)) s_cI) fun _ => s_eqL (c_falls s_n5.ev (by decide)).ev s_n2.ev).is (by congr 1)) rfl

end
theorem facts {P : Program} {w : World} {K : PySem.W.Frag} {h : Heap} {mg : Str → Option Value} {f : Addr} (X : K.In h) (G : h.Ns mainGlobals mg) (hf : mg ("law" : Str) = some (.ref f)) (c : He.SaysD fa fn K) :
    ∃ fd : FuncData, (∀ (s : Shared) (v : Value), BindsTo s fd ⟨[v], []⟩ [("_law_script", v)]) ∧ ∀ b : Heap, FnOk P w K mg b CX0 6 f fd ["_law_script"] (sp_law K) := by
  have T := txt_of X G c
  obtain ⟨fd, F⟩ := c.def_ 16 (d := d_law) rfl
  have e := hf.symm.trans T.g_law
  cases e
  have bd := FunD.bindsA (ps := ["_law_script"]) F fun _ _ _ _ _ _ us hl => match us, hl with | [_], _ => rfl
  refine ⟨fd, fun s v => bd s [v] rfl, fun b => ?_⟩
  obtain ⟨f', fd', hm', _, _, ok, oc, od, osl, lk⟩ := (g_law (P := P) (w := w) (base := b) T).ex
  have e := hm'.symm.trans T.g_law
  cases e
  obtain ⟨oc2, od2, _, _, _, _, _, _, _, osl2, _, lk2, _⟩ := F.ex
  have e := lk.symm.trans lk2
  injection e with e
  injection e with _ _ e
  injection e with e
  subst e
  exact ok
end KX
open PySem PySem.W PySem.Calls PyProof.Rows
set_option maxRecDepth 100000 in
set_option maxHeartbeats 8000000 in
theorem PySem.Challenge.cw_swapfalls_k01_whole_turned_holds : PySem.Challenge.rw_swapfalls_k01_whole_turned.Holds := by
  w_on; o_law
  refine HandSHeadRun.head_any (r := OpenLaw.row PySem.Challenge.rw_swapfalls_k01_whole_turned) (q := view (OpenLaw.row PySem.Challenge.rw_swapfalls_k01_whole_turned).prog [23]) (H := KX.hk) (ob := KX.ob) (M := 3000) (loose := ["FallError", "BadRow", "MOST", "is_number", "is_row", "check_row", "swaps_of", "swaps", "falls", "is_end", "turned", "back", "_law_number", "_law_swaps", "_law_row", "_law_whole", "_law_falls", "_law_right", "_law_orders"]) (d := HandSHeadRun.topDef (OpenLaw.row PySem.Challenge.rw_swapfalls_k01_whole_turned).prog 23) (kwd := []) KX.ob_eq
    (by kernel_rfl) (fun s => by kernel_rfl) KX.run (by kernel_rfl) (by kernel_rfl) (by kernel_rfl) (by rfl) (by first | assumption | decide +kernel) (by decide +kernel) ⟨rfl, rfl, rfl, rfl, rfl, by decide +kernel⟩ ?hw ?hc
  case hw => w_witness2
  case hc =>
    refine SX.law_end (l := PySem.Challenge.rw_swapfalls_k01_whole_turned) (n := 63) (k := 6) (x := "_law_script") (CX := fun _ => L2.CX0) rfl (by decide) (by kernel_rfl) ⟨rfl, by decide, by decide⟩ (fun w mg fa h Y G hm0 => ?_) (fun _ _ _ _ _ z => z)
    obtain ⟨K, kx, c⟩ := Y
    have hm : mg ("law" : PySem.Str) = some (.ref fa) := by
      have e : (HandSHeadRun.topDef (OpenLaw.row PySem.Challenge.rw_swapfalls_k01_whole_turned).prog 23).name = ("law" : PySem.Str) := by kernel_rfl
      exact e ▸ hm0
    obtain ⟨fd, hb, hF⟩ := KX.facts (P := (PySem.Challenge.rw_swapfalls_k01_whole_turned).prog) (w := w) kx G hm c
    exact ⟨K, fd, KX.sp_law K, kx, hb, fun H a ns hl hbits hS => SX.sc_spD hS ⟨ns, rfl, hl, hbits, rfl⟩, fun b _ _ => hF b⟩
namespace KX

end KX
