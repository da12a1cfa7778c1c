import PyProof.Rows.All
import Wide.All
import OpenK.AllK
import Wide.FinOn
import HandS.ForMost
import HandS.IsInst
import HandS.Defaults
import PySem.Challenge.RW_unseentables_k40_whole_gates_by_all_word
set_option Elab.async false
set_option linter.all false
set_option maxRecDepth 100000
set_option maxHeartbeats 4000000
/-! The plain law: what the gates are, and that they sort. No program here. -/
namespace G40
/-- the least number of doublings, for numbers up to 64 -/
def dbl (m : Nat) : Nat :=
  if m ≤ 1 then 0 else if m ≤ 2 then 1 else if m ≤ 4 then 2 else if m ≤ 8 then 3 else if m ≤ 16 then 4 else if m ≤ 32 then 5 else 6
theorem dbl_le (m : Nat) : dbl m ≤ 6 := by
  unfold dbl
  repeat' split
  all_goals decide
theorem upto6 {i : Nat} (h : i ≤ 6) : i = 0 ∨ i = 1 ∨ i = 2 ∨ i = 3 ∨ i = 4 ∨ i = 5 ∨ i = 6 := by omega
theorem dbl_is {m d : Nat} (h0 : d ≤ 6) (hm : m ≤ 64) (h1 : m ≤ 2 ^ d) (h2 : d = 0 ∨ 2 ^ (d - 1) < m) : d = dbl m := by
  rcases upto6 h0 with rfl | rfl | rfl | rfl | rfl | rfl | rfl
  all_goals
    simp at h1 h2
    unfold dbl
    repeat' split
    all_goals omega
theorem dbl_fits {m : Nat} (hm : m ≤ 64) : m ≤ 2 ^ dbl m := by
  unfold dbl
  repeat' split
  all_goals omega
/-- how many gates are enough -/
def limF (m : Nat) : Int := (((dbl m : Nat) : Int) * ((dbl m : Nat) : Int) - ((dbl m : Nat) : Int) + 4) * ((2 ^ dbl m : Nat) : Int) / 4 - 1

/-- the row of gates that mends a merging -/
def rowL (low gap n : Nat) : List (Nat × Nat) := (List.range n).map fun i => (low + gap + i * (2 * gap), low + gap + i * (2 * gap) + gap)
def mergedL : Nat → Nat → Nat → Nat → List (Nat × Nat)
  | 0, _, _, _ => []
  | n + 1, low, size, gap => if size ≤ 2 * gap then [(low, low + gap)] else
      mergedL n low size (2 * gap) ++ mergedL n (low + gap) size (2 * gap) ++ rowL low gap ((size - 1) / (2 * gap))
theorem rowL_len (low gap n : Nat) : (rowL low gap n).length = n := by
  unfold rowL
  rw [List.length_map, List.length_range]
theorem merged_len : ∀ (n low size gap : Nat), size ≤ 64 → (mergedL n low size gap).length + 64 ≤ 64 * 2 ^ n
  | 0, _, _, _, _ => by
    show 0 + 64 ≤ 64 * 2 ^ 0
    decide
  | n + 1, low, size, gap, h => by
    have a := merged_len n low size (2 * gap) h
    have b := merged_len n (low + gap) size (2 * gap) h
    have c : (size - 1) / (2 * gap) ≤ size - 1 := Nat.div_le_self _ _
    have p : 1 ≤ 2 ^ n := Nat.one_le_two_pow
    unfold mergedL
    rw [Nat.pow_succ]
    split
    · simp only [List.length_cons, List.length_nil]
      omega
    · rw [List.length_append, List.length_append, rowL_len]
      omega
def sortedL : Nat → Nat → List (Nat × Nat)
  | 0, _ => []
  | n + 1, low => sortedL n low ++ sortedL n (low + 2 ^ n) ++ mergedL (n + 1) low (2 ^ (n + 1)) 1
theorem sorted_len : ∀ (n low : Nat), n ≤ 6 → (sortedL n low).length ≤ 64 * 2 ^ n * n
  | 0, _, _ => Nat.zero_le _
  | n + 1, low, h => by
    have a := sorted_len n low (by omega)
    have b := sorted_len n (low + 2 ^ n) (by omega)
    have p : 2 ^ (n + 1) ≤ 2 ^ 6 := Nat.pow_le_pow_right (by decide) h
    have c := merged_len (n + 1) low (2 ^ (n + 1)) 1 p
    show (sortedL n low ++ sortedL n (low + 2 ^ n) ++ mergedL (n + 1) low (2 ^ (n + 1)) 1).length ≤ _
    rw [List.length_append, List.length_append]
    have e : 64 * 2 ^ (n + 1) * (n + 1) = 2 * (64 * 2 ^ n * n) + 64 * 2 ^ (n + 1) := by
      rw [Nat.pow_succ, Nat.mul_add, Nat.mul_one]
      have : 64 * (2 ^ n * 2) * n = 2 * (64 * 2 ^ n * n) := by
        rw [Nat.mul_comm (2 ^ n) 2, ← Nat.mul_assoc 64 2, Nat.mul_comm 64 2, Nat.mul_assoc 2 64, Nat.mul_assoc 2]
      omega
    omega
theorem sorted_small {n low : Nat} (h : n ≤ 6) : (sortedL n low).length ≤ 30000 := by
  have a := sorted_len n low h
  have b : 64 * 2 ^ n * n ≤ 30000 := by
    rcases upto6 h with rfl | rfl | rfl | rfl | rfl | rfl | rfl
    all_goals decide
  exact Nat.le_trans a b
def keepG (m : Nat) (g : Nat × Nat) : Bool := decide (g.2 < m)
def gatesL (m : Nat) : List (Nat × Nat) := (sortedL (dbl m) 0).filter (keepG m)
theorem gates_small (m : Nat) : (gatesL m).length ≤ 30000 := Nat.le_trans (List.length_filter_le _ _) (sorted_small (dbl_le m))

/-! ### what gates leave of a row -/
def stepG (r : List Int) (g : Nat × Nat) : List Int :=
  if r.getD g.2 0 < r.getD g.1 0 then (r.set g.1 (r.getD g.2 0)).set g.2 (r.getD g.1 0) else r
def ledL (gs : List (Nat × Nat)) (r : List Int) : List Int := gs.foldl stepG r
theorem step_len (r : List Int) (g : Nat × Nat) : (stepG r g).length = r.length := by
  unfold stepG
  split
  · rw [List.length_set, List.length_set]
  · rfl
theorem led_len : ∀ (gs : List (Nat × Nat)) (r : List Int), (ledL gs r).length = r.length
  | [], _ => rfl
  | g :: gs, r => (led_len gs (stepG r g)).trans (step_len r g)
theorem getD_map (f : Int → Int) {r : List Int} {i : Nat} (h : i < r.length) : (r.map f).getD i 0 = f (r.getD i 0) := by
  rw [List.getD_eq_getElem?_getD, List.getD_eq_getElem?_getD, List.getElem?_map, List.getElem?_eq_getElem h]
  rfl
theorem map_set (f : Int → Int) : ∀ (r : List Int) (i : Nat) (v : Int), (r.set i v).map f = (r.map f).set i (f v)
  | [], _, _ => rfl
  | _ :: _, 0, _ => rfl
  | x :: r, i + 1, v => congrArg (f x :: ·) (map_set f r i v)
theorem set_self : ∀ (r : List Int) (i : Nat) (v : Int), r.getD i 0 = v → i < r.length → r.set i v = r
  | [], _, _, _, h => absurd h (Nat.not_lt_zero _)
  | x :: r, 0, v, e, _ => by
    have e' : x = v := e
    rw [← e']
    rfl
  | x :: r, i + 1, v, e, h => congrArg (x :: ·) (set_self r i v e (Nat.lt_of_succ_lt_succ h))
theorem step_map (f : Int → Int) (mono : ∀ a b, a ≤ b → f a ≤ f b) {r : List Int} {g : Nat × Nat} (h1 : g.1 < r.length) (h2 : g.2 < r.length) : stepG (r.map f) g = (stepG r g).map f := by
  unfold stepG
  rw [getD_map f h1, getD_map f h2]
  by_cases c : r.getD g.2 0 < r.getD g.1 0
  · rw [if_pos c]
    by_cases d : f (r.getD g.2 0) < f (r.getD g.1 0)
    · rw [if_pos d, map_set, map_set]
    · rw [if_neg d, map_set, map_set]
      have e : f (r.getD g.2 0) = f (r.getD g.1 0) := by
        have := mono _ _ (Int.le_of_lt c)
        omega
      rw [set_self (r.map f) g.1 (f (r.getD g.2 0)) (by rw [getD_map f h1, e]) (by rw [List.length_map]; exact h1),
        set_self (r.map f) g.2 (f (r.getD g.1 0)) (by rw [getD_map f h2, e]) (by rw [List.length_map]; exact h2)]
  · rw [if_neg c, if_neg]
    have := mono (r.getD g.1 0) (r.getD g.2 0) (by omega)
    omega
theorem led_map (f : Int → Int) (mono : ∀ a b, a ≤ b → f a ≤ f b) : ∀ (gs : List (Nat × Nat)) (r : List Int), (∀ g ∈ gs, g.1 < r.length ∧ g.2 < r.length) → ledL gs (r.map f) = (ledL gs r).map f
  | [], _, _ => rfl
  | g :: gs, r, h => by
    obtain ⟨a, b⟩ := h g List.mem_cons_self
    show ledL gs (stepG (r.map f) g) = (ledL gs (stepG r g)).map f
    rw [step_map f mono a b]
    exact led_map f mono gs (stepG r g) fun x hx => by
      rw [step_len]
      exact h x (List.mem_cons_of_mem _ hx)
/-- ascending, side by side -/
def ascB (r : List Int) : Bool := (List.range (r.length - 1)).all fun i => decide (r.getD i 0 ≤ r.getD (i + 1) 0)
theorem asc_at {r : List Int} (h : ascB r = true) {i : Nat} (hi : i + 1 < r.length) : r.getD i 0 ≤ r.getD (i + 1) 0 :=
  of_decide_eq_true (List.all_eq_true.mp h i (List.mem_range.mpr (by omega)))
theorem asc_pair : ∀ (r : List Int), (∀ i, i + 1 < r.length → r.getD i 0 ≤ r.getD (i + 1) 0) → r.Pairwise (· ≤ ·)
  | [], _ => List.Pairwise.nil
  | [_], _ => List.pairwise_singleton _ _
  | x :: y :: r, h => by
    have t : (y :: r).Pairwise (· ≤ ·) := asc_pair (y :: r) fun i hi => h (i + 1) (by
      rw [List.length_cons]
      omega)
    have q : x ≤ y := h 0 (by
      rw [List.length_cons, List.length_cons]
      omega)
    refine List.Pairwise.cons (fun z hz => ?_) t
    rcases List.mem_cons.mp hz with e | hz
    · rw [e]
      exact q
    · exact Int.le_trans q ((List.pairwise_cons.mp t).1 z hz)
theorem count_set (x v : Int) : ∀ (r : List Int) (i : Nat), i < r.length → (r.set i v).count x + (if r.getD i 0 = x then 1 else 0) = r.count x + (if v = x then 1 else 0)
  | [], _, h => absurd h (Nat.not_lt_zero _)
  | y :: r, 0, _ => by
    show (v :: r).count x + (if y = x then 1 else 0) = (y :: r).count x + (if v = x then 1 else 0)
    rw [List.count_cons, List.count_cons]
    simp only [beq_iff_eq]
    omega
  | y :: r, i + 1, h => by
    have ih := count_set x v r i (Nat.lt_of_succ_lt_succ h)
    show (y :: r.set i v).count x + (if r.getD i 0 = x then 1 else 0) = (y :: r).count x + (if v = x then 1 else 0)
    rw [List.count_cons, List.count_cons]
    omega
theorem getD_set_ne {r : List Int} {i j : Nat} (v : Int) (h : i ≠ j) : (r.set i v).getD j 0 = r.getD j 0 := by
  rw [List.getD_eq_getElem?_getD, List.getD_eq_getElem?_getD, List.getElem?_set_ne h]
theorem step_perm {r : List Int} {g : Nat × Nat} (h1 : g.1 < r.length) (h2 : g.2 < r.length) (hn : g.1 ≠ g.2) : (stepG r g).Perm r := by
  unfold stepG
  split
  · rw [List.perm_iff_count]
    intro x
    have a := count_set x (r.getD g.2 0) r g.1 h1
    have b := count_set x (r.getD g.1 0) (r.set g.1 (r.getD g.2 0)) g.2 (by rw [List.length_set]; exact h2)
    rw [getD_set_ne _ hn] at b
    omega
  · exact List.Perm.refl _
theorem led_perm : ∀ (gs : List (Nat × Nat)) (r : List Int), (∀ g ∈ gs, g.1 < g.2 ∧ g.2 < r.length) → (ledL gs r).Perm r
  | [], _, _ => List.Perm.refl _
  | g :: gs, r, h => by
    obtain ⟨a, b⟩ := h g List.mem_cons_self
    refine (led_perm gs (stepG r g) fun x hx => ?_).trans (step_perm (by omega) b (by omega))
    rw [step_len]
    exact h x (List.mem_cons_of_mem _ hx)
/-- if all words of noughts and ones come out ascending, all rows do -/
theorem led_sorts {gs : List (Nat × Nat)} {n : Nat} (hg : ∀ g ∈ gs, g.1 < g.2 ∧ g.2 < n) (h01 : ∀ w : List Bool, w.length = n → ascB (ledL gs (w.map fun b => if b then (1 : Int) else 0)) = true)
    (r : List Int) (hr : r.length = n) : (ledL gs r).Pairwise (· ≤ ·) := by
  refine asc_pair _ fun i hi => Int.not_lt.mp fun bad => ?_
  have e := h01 (r.map fun x => decide ((ledL gs r).getD (i + 1) 0 < x)) (by rw [List.length_map]; exact hr)
  rw [List.map_map] at e
  have m := led_map ((fun b : Bool => if b then (1 : Int) else 0) ∘ fun x => decide ((ledL gs r).getD (i + 1) 0 < x)) (fun a b hab => by
    show (if decide _ = true then (1 : Int) else 0) ≤ (if decide _ = true then (1 : Int) else 0)
    by_cases p : (ledL gs r).getD (i + 1) 0 < a
    · have p2 : (ledL gs r).getD (i + 1) 0 < b := by omega
      rw [decide_eq_true p, decide_eq_true p2]
      exact Int.le_refl _
    · rw [decide_eq_false p]
      split
      · exact absurd (by assumption) Bool.false_ne_true
      · split
        · exact Int.le_of_lt Int.zero_lt_one
        · exact Int.le_refl _) gs r fun g hgm => by
        have := hg g hgm
        rw [hr]
        omega
  rw [m] at e
  have q := asc_at e (i := i) (by rw [List.length_map]; exact hi)
  rw [getD_map _ (by omega), getD_map _ hi] at q
  have q' : (if decide ((ledL gs r).getD (i + 1) 0 < (ledL gs r).getD i 0) = true then (1 : Int) else 0) ≤ (if decide ((ledL gs r).getD (i + 1) 0 < (ledL gs r).getD (i + 1) 0) = true then (1 : Int) else 0) := q
  rw [decide_eq_true bad, decide_eq_false (Int.lt_irrefl _)] at q'
  exact absurd q' (by decide)
/-! ### the gates of one place to eight -/
def bitsL (n w : Nat) : List Int := (List.range n).map fun k => ((w / 2 ^ k % 2 : Nat) : Int)
theorem bits_len (n w : Nat) : (bitsL n w).length = n := by
  unfold bitsL
  rw [List.length_map, List.length_range]
/-- the numbers of places that the law asks for -/
def asked : List Nat := [1, 2, 3, 4, 5, 6, 7, 8]
theorem are_gates : ∀ m ∈ asked, ∀ g ∈ gatesL m, g.1 < g.2 ∧ g.2 < m := by decide +kernel
theorem few_gates : ∀ m ∈ asked, ((gatesL m).length : Int) ≤ limF m := by decide +kernel
theorem few20 : ∀ m ∈ asked, (gatesL m).length ≤ 20 := by decide +kernel
theorem all_words : ∀ m ∈ asked, ∀ w ∈ List.range (2 ^ m), ascB (ledL (gatesL m) (bitsL m w)) = true := by decide +kernel
theorem words7 : ∀ a b c d e f g : Bool, ascB (ledL (gatesL 7) ([a, b, c, d, e, f, g].map fun b => if b then (1 : Int) else 0)) = true := by decide +kernel
theorem sorts7 (r : List Int) (hr : r.length = 7) : (ledL (gatesL 7) r).Pairwise (· ≤ ·) := by
  refine led_sorts (are_gates 7 (by decide)) (fun w hw => ?_) r hr
  match w, hw with
  | [a, b, c, d, e, f, g], _ => exact words7 a b c d e f g
theorem perm7 (r : List Int) (hr : r.length = 7) : (ledL (gatesL 7) r).Perm r := led_perm _ _ fun g hg => by
  rw [hr]
  exact are_gates 7 (by decide) g hg
theorem lim64 : limF 64 = 543 := by decide +kernel
theorem lim33 : limF 33 = 543 := by decide +kernel
theorem lim1 : limF 1 = 0 := by decide +kernel
theorem lim_small (m : Nat) : 0 ≤ limF m ∧ limF m ≤ 543 := by
  unfold limF
  rcases upto6 (dbl_le m) with e | e | e | e | e | e | e
  all_goals
    rw [e]
    decide +kernel
/-- two ascending rows of the same items are one -/
theorem same_rows : ∀ (a b : List Int), a.Perm b → a.Pairwise (· ≤ ·) → b.Pairwise (· ≤ ·) → a = b
  | [], b, p, _, _ => p.nil_eq
  | x :: a, [], p, _, _ => absurd p.length_eq (by simp)
  | x :: a, y :: b, p, ha, hb => by
    have e : x = y := by
      have h1 : x ∈ y :: b := p.mem_iff.mp List.mem_cons_self
      have h2 : y ∈ x :: a := p.mem_iff.mpr List.mem_cons_self
      have q1 : y ≤ x := (List.mem_cons.mp h1).elim (fun z => by omega) fun z => (List.pairwise_cons.mp hb).1 x z
      have q2 : x ≤ y := (List.mem_cons.mp h2).elim (fun z => by omega) fun z => (List.pairwise_cons.mp ha).1 y z
      omega
    subst e
    rw [same_rows a b (List.Perm.cons_inv p) (List.pairwise_cons.mp ha).2 (List.pairwise_cons.mp hb).2]
end G40
/-! Rules that this law wants beside the hand layer's. -/
namespace G40
open PySem PySem.Spec PyProof.Rows L2

/-! ### a test of three comparisons in a row -/
def tChain3 (r1 r2 r3 : R2) (ta tb tc td : TE) : TE := fun σ H Q =>
  ta σ H fun x H1 => tb σ H1 fun y H2 => r1 x y H2 fun p H3 => ∃ k, p = .bl k ∧ if k = true then
    (tc σ H3 fun z H4 => r2 y z H4 fun p2 H5 => ∃ k2, p2 = .bl k2 ∧ if k2 = true then (td σ H5 fun u H6 => r3 z u H6 Q) else Q (.bl false) H5)
  else Q (.bl false) H3
theorem pt_chain3 {X : Cx} {a b c d : Expr} {ta tb tc td : TE} {pos : Pos} {o1 o2 o3 : CmpOp} {r1 r2 r3 : R2} (h1 : OpR X (compareOp o1) r1) (h2 : OpR X (compareOp o2) r2) (h3 : OpR X (compareOp o3) r3)
    (ha : PE X a ta) (hb : PE X b tb) (hc : PE X c tc) (hd : PE X d td) (hm : lastMarks [o1, o2, o3] [b, c, d] = false := by with_unfolding_all rfl) :
    PT X (.Compare a [o1, o2, o3] [b, c, d] pos) (tTest (tChain3 r1 r2 r3 ta tb tc td)) := by
  constructor
  intro pins s σ H Q I h
  refine isTrue_chain (thn (ha.run pins s σ H _ I h) fun v1 s1 ⟨x1, H1, I1, e1, q1⟩ => ?_) hm
  refine test_link (thn (hb.run pins s1 σ H1 _ I1 q1) fun v2 s2 ⟨x2, H2, I2, e2, q2⟩ => ?_)
  refine thn (h1 pins s2 σ H2 x1 x2 v1 v2 _ I2 e1 e2 q2) fun v3 s3 ⟨x3, H3, I3, e3, k, ek, q3⟩ => ?_
  subst ek
  cases e3
  refine wpAny_truthy_bool ?_
  cases k with
  | false =>
    obtain ⟨j, ej, q4⟩ := q3
    cases ej
    exact ite_ff ⟨H3, I3, q4⟩
  | true =>
    refine ite_tt (test_link (thn (hc.run pins s3 σ H3 _ I3 q3) fun v4 s4 ⟨x4, H4, I4, e4, q4⟩ => ?_))
    refine thn (h2 pins s4 σ H4 x2 x4 v2 v4 _ I4 e2 e4 q4) fun v5 s5 ⟨x5, H5, I5, e5, j, ej, q5⟩ => ?_
    subst ej
    cases e5
    refine wpAny_truthy_bool ?_
    cases j with
    | false =>
      obtain ⟨i, ei, q6⟩ := q5
      cases ei
      exact ite_ff ⟨H5, I5, q6⟩
    | true =>
      refine ite_tt (test_last (thn (hd.run pins s5 σ H5 _ I5 q5) fun v6 s6 ⟨x6, H6, I6, e6, q6⟩ => ?_))
      refine thn (h3 pins s6 σ H6 x4 x6 v4 v6 _ I6 e4 e6 q6) fun v7 s7 ⟨x7, H7, I7, e7, i, ei, q7⟩ => ?_
      subst ei
      cases e7
      exact wpAny_truthy_bool ⟨H7, I7, q7⟩

/-! ### f(k = v): no argument by place -/
def tCallKw (n : Nat) (sp : Sp) (E : XK) (tk : TA) : TE := fun σ H Q => tk σ H fun zs H1 => zs.length = n ∧ sp zs H1 Q E
theorem pe_callKw {X : Cx} {CX : CXT} {k : Nat} {f : Addr} {fd : FuncData} {ps ks : List Str} {sp : Sp} {E : XK} {x : Str} {p pos : Pos} {kws : List Keyword} {tk : TA}
    (F : FnOk X.prog X.w X.K X.mg X.base CX k f fd ps sp) (hr : Room k X.A) (hg : Gl X x) (hm : X.mg x = some (.ref f)) (hk : PySem.W.keepIn X.K (.ref f) = true)
    (hb : KBn X.K fd ps 0 ks (fun _ ws => ws) (fun _ zs => zs)) (hx : Passes CX X E) (hkw : PK X kws tk)
    (hall : (backToKw pos (keywordEach kws X.env)).all (·.1.isSome) = true := by rfl) (hks : (backToKw pos (keywordEach kws X.env)).filterMap (·.1) = ks := by rfl)
    (hdb : (x == ("__debug__" : Str)) = false := by decide) (hpl : ((backTo pos (starEach [] X.env)).any (·.1) || (backToKw pos (keywordEach kws X.env)).any (·.1.isNone)) = false := by rfl) :
    PE X (.Call (.Name x p) [] kws pos) (tCallKw ks.length sp E tk) := by
  constructor
  intro pins s σ H Q I h
  refine wpAny_Call_Name_kw (ld_glob I hg hm ?_ hdb)
  refine PySem.W.callWith_KW0 (h₀ := X.base) (first := []) I.ok.mod.kin hk hall ?_ hpl
  refine thn (hkw.run pos pins s σ H _ I h) fun ws s2 ⟨zs, H2, I2, rz, lz, q2⟩ => ⟨I2.kIn, ?_⟩
  rw [hks]
  exact run_fnN (us := []) (vs := []) F hr hb hx I2 .nil rz rfl lz q2

/-! ### repr of what is made of lists, tuples and ints, where no guard stands -/
def Fit (d : PyData) : Prop := d.showable = true ∧ d.hasDict = false ∧ d.depth ≤ 60 ∧ d.shown.length ≤ sizeLine
def rShown (K : PySem.W.Frag) : List V → Hp → VK → Prop := fun xs H Q => ∃ (p : Addr) (d : PyData), xs = [.ref p] ∧ Dp K H (.ref p) d ∧ Fit d ∧ Q (.str d.shown) H
theorem call_shown {X : Cx} (hg : X.A.guards = some []) (hu : X.A.units + 64 < cLine) : CallR X (.builtin "repr") (rShown X.K) := by
  intro pins s σ H xs us Q I r h
  obtain ⟨p, d, rfl, hd, ⟨h1, h2, h3, h4⟩, q⟩ := h
  obtain ⟨u, rfl, ru⟩ := vals1 r
  cases ru
  obtain ⟨as, rd⟩ := Dp.reads I d _ _ hd rfl
  refine repr_of_reads' rd h1 (fun e => ?_) hg (by omega) (fun _ _ e => e) (fun h' t tk kp => ?_) h4
  · rw [h2] at e
    exact absurd e Bool.false_ne_true
  · exact ⟨.str d.shown, H, I.kept kp, ⟨t, rfl⟩, q⟩

/-! ### heaps -/
theorem new_same {H : Hp} {p : Addr} {o : HO} (h : H p = none) : Same H (upd H p o) := fun b u e => by
  rw [upd_ne (ne_of_none e h)]
  exact e
theorem keep_tup {K : PySem.W.Frag} {H H' : Hp} {a : Addr} {xs : List V} (e : Same H H') (h : SqT K H a xs) : SqT K H' a xs := by
  rcases h with (h | ⟨o, h⟩) | h
  · exact .inl (.inl (e _ _ h))
  · exact .inl (.inr ⟨o, e _ _ h⟩)
  · exact .inr h
theorem size_of {n : Nat} (h : n ≤ 1000000) : n ≤ sizeLine := Nat.le_trans h (by decide)
theorem size_lt {n : Nat} (h : n ≤ 1000000) : n < sizeLine := Nat.lt_of_le_of_lt h (by decide)
/-- gates as they stand: each a pair of ints, a tuple that is tracked -/
def Gs (H : Hp) : List V → List (Nat × Nat) → Prop := Paired fun v g => ∃ t : Addr, v = .ref t ∧ H t = some (.tup [.int (g.1 : Int), .int (g.2 : Int)])
theorem Gs.keep {H H' : Hp} (e : Same H H') {vs : List V} {gs : List (Nat × Nat)} (h : Gs H vs gs) : Gs H' vs gs := Paired.mapP h fun _ _ ⟨t, a, b⟩ => ⟨t, a, e _ _ b⟩
theorem Gs.len {H : Hp} {vs : List V} {gs : List (Nat × Nat)} (h : Gs H vs gs) : vs.length = gs.length := Paired.length h
theorem Gs.app {H : Hp} {vs ws : List V} {gs hs : List (Nat × Nat)} (a : Gs H vs gs) (b : Gs H ws hs) : Gs H (vs ++ ws) (gs ++ hs) := by
  induction a with
  | nil => exact b
  | cons r _ ih => exact .cons r ih
theorem Gs.get {H : Hp} {vs : List V} {gs : List (Nat × Nat)} (h : Gs H vs gs) : ∀ {i : Nat} {v : V}, vs[i]? = some v → ∃ (t : Addr) (g : Nat × Nat), v = .ref t ∧ gs[i]? = some g ∧ H t = some (.tup [.int (g.1 : Int), .int (g.2 : Int)]) := by
  induction h with
  | nil =>
    intro i v e
    rw [List.getElem?_nil] at e
    cases e
  | cons r _ ih =>
    intro i v e
    cases i with
    | zero =>
      cases e
      obtain ⟨t, a, b⟩ := r
      exact ⟨t, _, a, rfl, b⟩
    | succ i => exact ih (i := i) e
theorem Gs.write {H : Hp} {p : Addr} {ys zs : List V} (e : H p = some (.lst ys)) {vs : List V} {gs : List (Nat × Nat)} (h : Gs H vs gs) : Gs (upd H p (.lst zs)) vs gs := Paired.mapP h fun _ _ ⟨t, a, b⟩ => ⟨t, a, by
  rw [upd_ne (ne_of b e (by intro z; cases z))]
  exact b⟩
theorem ints2 {a b c d : Int} (h1 : a = c) (h2 : b = d) : ([.int a, .int b] : List V) = [.int c, .int d] := by rw [h1, h2]
theorem ints3 {a b c d e f : Int} (h1 : a = d) (h2 : b = e) (h3 : c = f) : ([.int a, .int b, .int c] : List V) = [.int d, .int e, .int f] := by rw [h1, h2, h3]
/-- a promise that is kept for each of some numbers -/
theorem fn_each {P : Program} {w : World} {K : PySem.W.Frag} {mg : Str → Option Value} {base : Heap} {CX : CXT} {k : Nat} {f : Addr} {fd : FuncData} {ps : List Str} {sp : Nat → Sp} {ok : Nat → Prop} (F : ∀ n, ok n → FnOk P w K mg base CX k f fd ps (sp n)) :
    FnOk P w K mg base CX k f fd ps (fun vs H Q E => ∃ n, ok n ∧ sp n vs H Q E) :=
  ⟨fun vs H Q E ⟨n, o, h⟩ => (F n o).len vs H Q E h, fun A outer s H args us vs Q E hr he hb hv ⟨n, o, h⟩ => (F n o).run A outer s H args us vs Q E hr he hb hv h⟩
def gateD (g : Nat × Nat) : PyData := .tuple [.int (g.1 : Int), .int (g.2 : Int)]
theorem Gs.data {K : PySem.W.Frag} {H : Hp} {vs : List V} {gs : List (Nat × Nat)} (h : Gs H vs gs) : DpAll K H vs (gs.map gateD) := by
  induction h with
  | nil => exact .nil
  | cons r _ ih =>
    obtain ⟨t, rfl, b⟩ := r
    exact .cons (.tup (SqT.of b) (.cons (.int _) (.cons (.int _) .nil))) ih

/-! ### the law's end, with all that stands around its call -/
/-- the script alone is tracked, known to its object (or it is an object of the module's own) -/
def scriptH (K : PySem.W.Frag) (a : Addr) (o : Obj) (ns : List Int) : Hp := fun b => if b = a ∧ (K.lookup a).isNone = true then some (.frz o (.lst (ns.map V.int))) else none
theorem scriptH_at {K : PySem.W.Frag} {a b : Addr} {o : Obj} {ns : List Int} {u : HO} (e : scriptH K a o ns b = some u) : b = a ∧ (K.lookup a).isNone = true ∧ u = .frz o (.lst (ns.map V.int)) := by
  unfold scriptH at e
  by_cases c : b = a ∧ (K.lookup a).isNone = true
  · rw [if_pos c] at e
    exact ⟨c.1, c.2, (Option.some.inj e).symm⟩
  · rw [if_neg c] at e
    cases e
/-- what the law's def must do: its body, read where the law's own call has brought it -/
def LawBody (P : Program) (w : World) (K : PySem.W.Frag) (mg : Str → Option Value) (N : List Str) (x nm : Str) (st : Stmt) (f : Addr) (n k : Nat) : Prop :=
  ∀ (base : Heap) (cdv : Value) (s : Shared) (H : Hp) (a : Addr) (ns : List Int), SqL K H a (ns.map V.int) → ns.length ≤ n → Room k (callerA.deeper (envOfC nm (defScope st) s.heap.objs.size f cdv)) →
    ∃ t, PSs (cxOf CX0 P w K mg base N nm (defScope st) f cdv callerA [] s H E0).nox (defBody st) t ∧ t { nx := fun _ _ => False, rt := fun v _ => v = .bl true } (start N [.ref a]) H
theorem law_end {l : PySem.W.OpenLaw} {n k : Nat} {q : Program} {loose : List Str} {XP : (Str → Option Value) → Heap → Prop} {YP : World → Heap → Prop} {d : DefRec} {K : Params → PySem.W.Frag} {N : List Str} {x nm : Str} {st : Stmt}
    (hn : l.most = some n) (hn2 : n ≤ sizeLine) (hdf : d.params.defaults = []) (hr : Room (k + 1) callerA) (S : FnScope N [x] (defScope st)) (hY : ∀ (w : World) (h : Heap), YP w h → (K w.params).In h)
    (F : ∀ (w : World) (mg : Str → Option Value) (fa : Addr) (h : Heap), (K w.params).In h → h.Ns mainGlobals mg → mg d.name = some (.ref fa) →
      ∃ fd : FuncData, Fun (K w.params) nm nm st fa fd ∧ (∀ (s : Shared) (v : Value), BindsTo s fd ⟨[v], []⟩ [(x, v)]) ∧ LawBody l.prog w (K w.params) mg N x nm st fa n k) :
    PySem.W.WalkO q loose XP YP l.row.toRowW d [] (fun f vs => PySem.call f vs) := by
  refine Att.attach_call hn hdf fun w s0 s1 mg mb fa o pm cd doc a vs ns G Y ho hd hcd hmg hobj hints hlen hgens => ?_
  have KX := hY w _ Y
  obtain ⟨fd, FF, hbind, body⟩ := F w mg fa _ KX G.T.g hmg
  have hl : ns.length ≤ sizeLine := Nat.le_trans hlen hn2
  have rv : Vals (ns.map V.int) vs := vals_ints hints
  have lv := hints.length
  generalize hH : scriptH (K w.params) a { cls := .type "list", data := .seq vs.toArray } ns = H
  have at_ : ∀ {b : Addr} {u : HO}, H b = some u → b = a ∧ ((K w.params).lookup a).isNone = true ∧ u = .frz { cls := .type "list", data := .seq vs.toArray } (.lst (ns.map V.int)) := fun {b u} e => scriptH_at (by rw [hH]; exact e)
  -- the script is to be read
  have hS : SqL (K w.params) H a (ns.map V.int) := by
    cases hk : (K w.params).lookup a with
    | none =>
      refine .inl (.inr ⟨{ cls := .type "list", data := .seq vs.toArray }, ?_⟩)
      rw [← hH]
      unfold scriptH
      rw [if_pos ⟨rfl, by rw [hk]; rfl⟩]
    | some ob =>
      have e := KX a ob hk
      rw [hobj] at e
      cases e
      exact .inr ⟨_, vs.toArray, _, hk, rfl, rfl, rfl, by rw [List.size_toArray, lv]; exact hl, by simpa using rv⟩
  have hok : HOk l.prog w H s1.heap := fun b u e => by
    obtain ⟨e1, _, e3⟩ := at_ e
    subst e1
    subst e3
    exact ⟨hobj, by rw [List.length_map]; exact hl, vs, _, rv, hobj⟩
  -- the base: all but the script
  have none_of : ∀ {b : Addr} {ob : Obj}, s1.heap.get? b = some ob → (∀ its m, ob.data ≠ .seq its m) → H b = none := fun {b ob} e nd => by
    cases z : H b with
    | none => rfl
    | some u =>
      obtain ⟨e1, _, _⟩ := at_ z
      rw [e1, hobj] at e
      exact absurd (congrArg Obj.data (Option.some.inj e)).symm (nd _ _)
  have ns_of : ∀ {b : Addr} {m : Str → Option Value}, s1.heap.Ns b m → (hidT s1.heap H).Ns b m := fun {b m} ⟨ob, es, ep, e, dd, rest⟩ =>
    ⟨ob, es, ep, hidT_get e (none_of e fun its m z => by rw [dd] at z; cases z), dd, rest⟩
  have kb : (K w.params).In (hidT s1.heap H) := fun b ob e => hidT_get (KX b ob e) (by
    cases z : H b with
    | none => rfl
    | some u =>
      obtain ⟨e1, e2, _⟩ := at_ z
      rw [e1] at e
      rw [e] at e2
      cases e2)
  have lim := G.T.nolimit
  have hM : Mod (K w.params) mg (hidT s1.heap H) := ⟨kb, ns_of G.T.g, ⟨mb, ns_of G.T.b, G.T.builtins⟩, let ⟨mc, g1, g2⟩ := lim; ⟨mc, ns_of g1, g2⟩⟩
  have e0 : Env0 l.prog w (K w.params) mg (hidT s1.heap H) callerA [] s1 H :=
    ⟨rfl, hM, fun b ob e => of_hidT e, Nat.le_of_eq (hidT_size _ _), trivial, fun b hb => (List.not_mem_nil hb).elim, hok, .of_eq hgens⟩
  obtain ⟨oc, od, kV, doc2, pm2, an, cdv, ct, osl, rfl, lk, hcode⟩ := FF.ex
  have par : ((([(x, Value.ref a)] : List (Str × Value))).all fun y => (defScope st).names.lookup y.1 == some .local || (defScope st).names.lookup y.1 == some .cell) = true := by
    rw [List.all_cons, List.all_nil, Bool.and_true, Bool.or_eq_true, beq_iff_eq, beq_iff_eq]
    exact S.par x List.mem_cons_self
  refine Att.call_fn KX lim lk hcode hr.depth (hbind s1 (.ref a)) par (fun s2 x2 => ?_) S.co S.gen S.kind
  have I := inv_start (CX := CX0) (E := E0) (us := [.ref a]) (vs := [V.ref a]) S hr.hd e0 rfl (.cons rfl .nil) x2
  obtain ⟨t, ht, hq⟩ := body (hidT s1.heap H) cdv s1 H a ns hS hlen (hr.deeper _)
  refine wpAny_mono (ht.nox.run [] s2 _ H _ I hq) (fun fl s' hs => ?_) fun e s' hs => wpAny_mono hs (fun _ _ z => (show False from z).elim) fun _ _ z => (show False from z).elim
  cases fl with
  | next => exact (show False from hs.choose_spec.choose_spec.2).elim
  | brk => exact (show False from hs.choose_spec.choose_spec.2).elim
  | cont => exact (show False from hs.choose_spec.choose_spec.2).elim
  | ret u =>
    obtain ⟨v, σ', H', J, rv', ev⟩ := hs
    have ev' : v = .bl true := ev
    subst ev'
    obtain rfl : u = Value.bool true := rv'
    refine ⟨rfl, OldK.of_keep fun b ob e => ?_, J.os, J.bare⟩
    cases z : H b with
    | none => exact J.base.keep b ob e z (fun y => (List.not_mem_nil y).elim) (fun y => (List.not_mem_nil y).elim)
    | some w' =>
      obtain ⟨e1, _, e3⟩ := at_ z
      subst e1
      subst e3
      obtain ⟨g1, _⟩ := J.hok b _ (J.base.frzs b _ _ z)
      rw [hobj] at e
      cases e
      exact g1
end G40
/-! The program's own defs, each walked once. -/
namespace G40
open PySem PySem.Spec PyProof.Rows L2

/-! ### the text by places -/
def topS (i : Nat) : Stmt := PySem.Challenge.pw_unseentables_k40_whole_gates_by_all_word.main.body.getD i (.Pass ⟨0, 0, 0, 0⟩)
abbrev sDbl : Stmt := topS 1
abbrev sLimit : Stmt := topS 2
abbrev sMerged : Stmt := topS 3
abbrev sSorted : Stmt := topS 4
abbrev sGates : Stmt := topS 5
theorem scDbl : FnScope ["many", "found", "size"] ["many"] (defScope sDbl) := ⟨rfl, rfl, rfl, by decide +kernel, rfl, by decide +kernel, by decide +kernel⟩
theorem scLimit : FnScope ["many", "found", "size"] ["many"] (defScope sLimit) := ⟨rfl, rfl, rfl, by decide +kernel, rfl, by decide +kernel, by decide +kernel⟩
theorem scMerged : FnScope ["low", "size", "gap", "far", "found", "place"] ["low", "size", "gap"] (defScope sMerged) := ⟨rfl, rfl, rfl, by decide +kernel, rfl, by decide +kernel, by decide +kernel⟩
theorem scSorted : FnScope ["low", "size", "half"] ["low", "size"] (defScope sSorted) := ⟨rfl, rfl, rfl, by decide +kernel, rfl, by decide +kernel, by decide +kernel⟩
theorem scGates : FnScope ["many", "found", "size", "gate"] ["many"] (defScope sGates) := ⟨rfl, rfl, rfl, by decide +kernel, rfl, by decide +kernel, by decide +kernel⟩

section
variable {P : Program} {w : World} {K : PySem.W.Frag} {mg : Str → Option Value} {base : Heap}

/-! ### doublings -/
def spDbl : Sp := fun vs H Q _ => ∃ m : Nat, vs = [.int (m : Int)] ∧ 1 ≤ m ∧ m ≤ 64 ∧ ∀ H' p, Same H H' → H p = none → H' p = some (.tup [.int ((dbl m : Nat) : Int), .int ((2 ^ dbl m : Nat) : Int)]) → Q (.ref p) H'
theorem ok_dbl {f : Addr} {fd : FuncData} {k : Nat} (F : Fun K "doublings" "doublings" sDbl f fd) : FnOk P w K mg base CX0 (k + 1) f fd ["many"] spDbl := by
  refine F.ok scDbl (fun vs H Q E h => ?_) (fun cdv A outer s H vs Q E hr h => ?_)
  · obtain ⟨m, rfl, _⟩ := h
    rfl
  obtain ⟨m, rfl, h1, h2, q⟩ := h
  refine ⟨_, pss_cons (ps_asg (pe_tup (pa_cons pe_int (pa_cons pe_int pa_nil))) (pg_tup rfl (pgs_cons (pg_name (i := 1) scDbl.nd rfl (.inl rfl)) (pgs_cons (pg_name (i := 2) scDbl.nd rfl (.inl rfl)) pgs_nil))))
    (pss_cons (ps_while PassesOwn.never (pt_cmpR op_lt (pv 2) (pv 0) (nomark _))
      (pss_one (ps_par (i := 1) (j := 2) rfl scDbl.nd rfl rfl (by decide) rfl rfl (pa_cons (pe_op op_add (pv 1) pe_int) (pa_cons (pe_op op_mul pe_int (pv 2)) pa_nil)) (by rfl))))
    (pss_one (ps_ret (pe_tup (pa_cons (pv 1) (pa_cons (pv 2) pa_nil)))))), ?_⟩
  -- found, size = 0, 1
  refine ⟨(by show 2 ≤ sizeLine; decide), fun z nz => ⟨z, _, rfl, SqT.of upd_same, rfl, _, _, rfl, _, _, rfl, rfl, ?_⟩⟩
  have sz : Same H (upd H z (.tup [.int 0, .int 1])) := new_same nz
  refine ⟨fun k σ H' => H' = upd H z (.tup [.int 0, .int 1]) ∧ ∃ i : Nat, i ≤ 6 ∧ k + i = 7 ∧ (i = 0 ∨ 2 ^ (i - 1) < m) ∧ σ = [some (.int (m : Int)), some (.int (i : Int)), some (.int ((2 ^ i : Nat) : Int))], ⟨7, rfl, 0, by decide, rfl, .inl rfl, rfl⟩, ?_⟩
  rintro k σ H' ⟨rfl, i, hi, hk, hlow, rfl⟩
  refine ⟨_, rfl, _, rfl, _, _, rfl, rfl, _, rfl, ite2 (fun c => ?_) (fun c => ?_)⟩
  · -- one turn
    have c' : 2 ^ i < m := by
      have := of_decide_eq_true c
      omega
    have hi5 : i ≤ 5 := by
      rcases upto6 hi with rfl | rfl | rfl | rfl | rfl | rfl | rfl
      all_goals first | omega | (exfalso; simp at c'; omega)
    refine ⟨fun σ' H2 => H2 = upd H z (.tup [.int 0, .int 1]) ∧ σ' = [some (.int (m : Int)), some (.int ((i + 1 : Nat) : Int)), some (.int ((2 ^ (i + 1) : Nat) : Int))], ?_, ?_⟩
    · rintro σ' H2 ⟨rfl, rfl⟩
      exact ⟨k - 1, by omega, rfl, i + 1, by omega, by omega, .inr c', rfl⟩
    · refine ⟨_, rfl, _, _, rfl, rfl, _, rfl, _, _, rfl, rfl, .inl ⟨by decide, by decide⟩, _, _, rfl, rfl, ?_⟩
      show ([some (V.int (m : Int)), some (.int ((i : Int) + 1)), some (.int (2 * ((2 ^ i : Nat) : Int)))] : List (Option V)) = _
      have e1 : (i : Int) + 1 = ((i + 1 : Nat) : Int) := by omega
      have e2 : 2 * ((2 ^ i : Nat) : Int) = ((2 ^ (i + 1) : Nat) : Int) := by
        rw [Nat.pow_succ]
        omega
      rw [e1, e2]
  · -- return found, size
    have c' : m ≤ 2 ^ i := by
      have := of_decide_eq_false (Bool.eq_false_iff.mpr c)
      omega
    have e : i = dbl m := dbl_is hi h2 c' hlow
    subst e
    exact ⟨_, rfl, _, rfl, (by show 2 ≤ sizeLine; decide), fun p np => q _ p (sz.trans (new_same np)) (sz.free np) upd_same⟩

/-! ### gate_limit -/
def spLimit : Sp := fun vs H Q _ => ∃ m : Nat, vs = [.int (m : Int)] ∧ 1 ≤ m ∧ m ≤ 64 ∧ ∀ H', Same H H' → Q (.int (limF m)) H'
theorem pow_dbl (m : Nat) : 2 ^ dbl m ≤ 64 := Nat.le_trans (Nat.pow_le_pow_right (by decide) (dbl_le m)) (by decide)
theorem ok_limit {f g : Addr} {fd gd : FuncData} {k : Nat} (F : Fun K "gate_limit" "gate_limit" sLimit f fd) (G : FnOk P w K mg base CX0 k g gd ["many"] spDbl) (kG : PySem.W.keepIn K (.ref g) = true) (bG : Binds K gd ["many"] [])
    (mG : mg "doublings" = some (.ref g)) : FnOk P w K mg base CX0 (k + 1) f fd ["many"] spLimit := by
  refine F.ok scLimit (fun vs H Q E h => ?_) (fun cdv A outer s H vs Q E hr h => ?_)
  · obtain ⟨m, rfl, _⟩ := h
    rfl
  obtain ⟨m, rfl, h1, h2, q⟩ := h
  refine ⟨_, pss_cons (ps_asg (pe_call G hr (by rfl) mG kG bG .nil pass0 (pa_cons (pv 0) pa_nil)) (pg_tup rfl (pgs_cons (pg_name (i := 1) scLimit.nd rfl (.inl rfl)) (pgs_cons (pg_name (i := 2) scLimit.nd rfl (.inl rfl)) pgs_nil))))
    (pss_one (ps_ret (pe_op op_sub (pe_op op_fdiv (pe_op op_mul (pe_op op_add (pe_op op_sub (pe_op op_mul (pv 1) (pv 1)) (pv 1)) pe_int) (pv 2)) pe_int) pe_int))), ?_⟩
  refine ⟨_, rfl, m, rfl, h1, h2, fun H1 p s1 np e1 => ⟨p, _, rfl, SqT.of e1, rfl, _, _, rfl, _, _, rfl, rfl, ?_⟩⟩
  have d6 := dbl_le m
  have pz : (0 : Int) ≤ ((2 ^ dbl m : Nat) : Int) ∧ ((2 ^ dbl m : Nat) : Int) ≤ 64 := ⟨Int.natCast_nonneg _, Int.ofNat_le.mpr (pow_dbl m)⟩
  refine ⟨_, rfl, _, rfl, _, _, rfl, rfl, .inl ⟨by omega, by omega⟩, _, rfl, _, _, rfl, rfl, _, _, rfl, rfl, _, rfl, _, _, rfl, rfl, .inr ⟨by omega, by omega⟩, _, _, rfl, rfl, ⟨by decide, by decide⟩, _, _, rfl, rfl, ?_⟩
  exact q H1 s1

/-! ### merged: n calls, one in another, are allowed -/
def spMerged (n : Nat) : Sp := fun vs H Q _ => ∃ low size gap : Nat, vs = [.int (low : Int), .int (size : Int), .int (gap : Int)] ∧ 1 ≤ gap ∧ gap < size ∧ size ≤ 64 ∧ size ≤ gap * 2 ^ n ∧ n ≤ 7 ∧
  ∀ H' r xs, Same H H' → H r = none → H' r = some (.lst xs) → Gs H' xs (mergedL n low size gap) → Q (.ref r) H'
theorem merged_few {n low size gap : Nat} (h : size ≤ 64) (hn : n ≤ 7) : (mergedL n low size gap).length ≤ 8192 := by
  have a := merged_len n low size gap h
  have b : 2 ^ n ≤ 2 ^ 7 := Nat.pow_le_pow_right (by decide) hn
  omega
theorem ok_merged {n : Nat} {f : Addr} {fd : FuncData} (F : Fun K "merged" "merged" sMerged f fd) (G : FnOk P w K mg base CX0 n f fd ["low", "size", "gap"] (spMerged n)) (bF : Binds K fd ["low", "size", "gap"] [])
    (mF : mg "merged" = some (.ref f)) : FnOk P w K mg base CX0 (n + 1) f fd ["low", "size", "gap"] (spMerged (n + 1)) := by
  refine F.ok scMerged (fun vs H Q E h => ?_) (fun cdv A outer s H vs Q E hr h => ?_)
  · obtain ⟨low, size, gap, rfl, _⟩ := h
    rfl
  obtain ⟨low, size, gap, rfl, hg, hgs, hs64, hfit, hn, q⟩ := h
  refine ⟨_, pss_cons (ps_set (i := 3) scMerged.nd rfl (.inl rfl) (pe_op op_mul pe_int (pv 2)))
    (pss_cons (ps_if (pt_cmpR op_ge (pv 3) (pv 1) (nomark _)) (pss_one (ps_ret (pe_lst (pa_cons (pe_tup (pa_cons (pv 0) (pa_cons (pe_op op_add (pv 0) (pv 2)) pa_nil))) pa_nil)))) pss_nil)
    (pss_cons (ps_set (i := 4) scMerged.nd rfl (.inl rfl) (pe_op op_cat (pe_call G hr (by rfl) mF F.kp bF .nil pass0 (pa_cons (pv 0) (pa_cons (pv 1) (pa_cons (pv 3) pa_nil))))
        (pe_call G hr (by rfl) mF F.kp bF .nil pass0 (pa_cons (pe_op op_add (pv 0) (pv 2)) (pa_cons (pv 1) (pa_cons (pv 3) pa_nil))))))
    (pss_cons (ps_set (i := 5) scMerged.nd rfl (.inl rfl) (pe_op op_add (pv 0) (pv 2)))
    (pss_cons (ps_while PassesOwn.never (pt_cmpR op_lt (pe_op op_add (pv 5) (pv 2)) (pe_op op_add (pv 0) (pv 1)) (nomark _))
      (pss_cons (ps_expr (pe_bm PySem.F.plainAttrs_list PySem.F.slot_list_append PySem.F.type_list_append mt_append (pv 4) (pa_cons (pe_tup (pa_cons (pv 5) (pa_cons (pe_op op_add (pv 5) (pv 2)) pa_nil))) pa_nil)))
      (pss_one (ps_set (i := 5) scMerged.nd rfl (.inl rfl) (pe_op op_add (pv 5) (pv 3))))))
    (pss_one (ps_ret (pv 4))))))), ?_⟩
  -- far = 2 * gap; if far >= size
  refine ⟨_, rfl, _, _, rfl, rfl, .inl ⟨by decide, by decide⟩, ?_⟩
  refine ⟨_, rfl, _, rfl, _, _, rfl, rfl, _, rfl, ite2 (fun c => ?_) (fun c => ?_)⟩
  · -- one gate
    have c' : size ≤ 2 * gap := by
      have := of_decide_eq_true c
      omega
    refine ⟨_, rfl, _, rfl, _, rfl, _, _, rfl, rfl, (by show 2 ≤ sizeLine; decide), fun t nt => ⟨(by show 1 ≤ sizeLine; decide), fun r nr => ?_⟩⟩
    have s1 : Same H (upd H t (.tup [.int (low : Int), .int ((low : Int) + (gap : Int))])) := new_same nt
    refine q _ r [.ref t] (s1.trans (new_same nr)) (s1.free nr) upd_same ?_
    unfold mergedL
    rw [if_pos c']
    refine .cons ⟨t, rfl, ?_⟩ .nil
    rw [upd_ne (ne_of_none upd_same nr), upd_same]
    rfl
  have c' : 2 * gap < size := by
    have := of_decide_eq_false (Bool.eq_false_iff.mpr c)
    omega
  have ef : (2 : Int) * (gap : Int) = ((2 * gap : Nat) : Int) := by omega
  have eg : (low : Int) + (gap : Int) = ((low + gap : Nat) : Int) := by omega
  have fit2 : size ≤ 2 * gap * 2 ^ n := by
    rw [Nat.pow_succ] at hfit
    have : gap * (2 ^ n * 2) = 2 * gap * 2 ^ n := by
      rw [Nat.mul_comm (2 ^ n) 2, ← Nat.mul_assoc, Nat.mul_comm gap 2]
    omega
  -- found = merged(..) + merged(..)
  refine ⟨_, rfl, _, rfl, _, rfl, low, size, 2 * gap, ints3 rfl rfl ef, by omega, c', hs64, fit2, by omega, fun H1 r1 x1 s1 n1 e1 g1 => ?_⟩
  refine ⟨_, rfl, _, rfl, _, _, rfl, rfl, _, rfl, _, rfl, low + gap, size, 2 * gap, ints3 eg rfl ef, by omega, c', hs64, fit2, by omega, fun H2 r2 x2 s2 n2 e2 g2 => ?_⟩
  have l1 : x1.length ≤ 8192 := by
    rw [g1.len]
    exact merged_few hs64 (by omega)
  have l2 : x2.length ≤ 8192 := by
    rw [g2.len]
    exact merged_few hs64 (by omega)
  refine ⟨r1, r2, x1, x2, rfl, rfl, s2 _ _ e1, e2, size_of (by omega), fun p np => ?_⟩
  have s3 : Same H H2 := s1.trans s2
  have fp : H p = none := s3.free np
  -- place = low + gap; the loop
  refine ⟨_, rfl, _, rfl, _, _, rfl, rfl, ?_⟩
  generalize hc : (size - 1) / (2 * gap) = cnt
  have turns : ∀ i : Nat, low + gap + i * (2 * gap) + gap < low + size ↔ i + 1 ≤ cnt := fun i => by
    rw [← hc, Nat.le_div_iff_mul_le (by omega), Nat.add_mul, Nat.one_mul]
    omega
  have cntle : cnt ≤ 64 := by
    rw [← hc]
    exact Nat.le_trans (Nat.div_le_self _ _) (by omega)
  refine ⟨fun k σ H' => ∃ (i : Nat) (xs : List V), k + i = cnt ∧ Same H H' ∧ H' p = some (.lst xs) ∧ Gs H' xs (mergedL n low size (2 * gap) ++ mergedL n (low + gap) size (2 * gap) ++ rowL low gap i) ∧
      σ = [some (.int (low : Int)), some (.int (size : Int)), some (.int (gap : Int)), some (.int ((2 : Int) * (gap : Int))), some (.ref p), some (.int ((low + gap + i * (2 * gap) : Nat) : Int))],
    ⟨cnt, 0, x1 ++ x2, rfl, s3.trans (new_same np), upd_same, ?_, ?_⟩, ?_⟩
  · have g0 : Gs H2 (x1 ++ x2) (mergedL n low size (2 * gap) ++ mergedL n (low + gap) size (2 * gap)) := (g1.keep s2).app g2
    have er : rowL low gap 0 = [] := rfl
    rw [er, List.append_nil]
    exact g0.keep (new_same np)
  · have e0 : low + gap + 0 * (2 * gap) = low + gap := by
      rw [Nat.zero_mul, Nat.add_zero]
    rw [e0, ← eg]
    rfl
  rintro k σ H' ⟨i, xs, hk, sm, ep, gx, rfl⟩
  refine ⟨_, rfl, _, rfl, _, _, rfl, rfl, _, rfl, _, rfl, _, _, rfl, rfl, _, _, rfl, rfl, _, rfl, ite2 (fun d => ?_) (fun d => ?_)⟩
  · -- one more gate
    have d' : i + 1 ≤ cnt := (turns i).mp (by
      have := of_decide_eq_true d
      omega)
    refine ⟨fun σ' H2 => ∃ ys : List V, Same H H2 ∧ H2 p = some (.lst ys) ∧ Gs H2 ys (mergedL n low size (2 * gap) ++ mergedL n (low + gap) size (2 * gap) ++ rowL low gap (i + 1)) ∧
      σ' = [some (.int (low : Int)), some (.int (size : Int)), some (.int (gap : Int)), some (.int ((2 : Int) * (gap : Int))), some (.ref p), some (.int ((low + gap + (i + 1) * (2 * gap) : Nat) : Int))], ?_, ?_⟩
    · rintro σ' H2 ⟨ys, a1, a2, a3, rfl⟩
      exact ⟨k - 1, by omega, i + 1, ys, by omega, a1, a2, a3, rfl⟩
    refine ⟨_, rfl, .inl ⟨rfl, _, SqL.of ep⟩, _, rfl, _, rfl, _, rfl, _, _, rfl, rfl, (by show 2 ≤ sizeLine; decide), fun t nt => ?_⟩
    have pt : p ≠ t := ne_of_none ep nt
    have lx : xs.length ≤ 20000 := by
      have a := merged_few (n := n) (low := low) (gap := 2 * gap) hs64 (by omega)
      have b := merged_few (n := n) (low := low + gap) (gap := 2 * gap) hs64 (by omega)
      rw [gx.len, List.length_append, List.length_append, rowL_len]
      omega
    refine ⟨p, xs, .ref t, rfl, rfl, by rw [upd_ne pt]; exact ep, size_lt (by omega), ?_⟩
    refine ⟨_, rfl, _, rfl, _, _, rfl, rfl, ?_⟩
    have st : Same H' (upd H' t (.tup [.int ((low + gap + i * (2 * gap) : Nat) : Int), .int (((low + gap + i * (2 * gap) : Nat) : Int) + (gap : Int))])) := new_same nt
    refine ⟨xs ++ [.ref t], fun b u e => ?_, upd_same, ?_, ?_⟩
    · rw [upd_ne (ne_of_none e fp)]
      exact st _ _ (sm _ _ e)
    · have er : rowL low gap (i + 1) = rowL low gap i ++ [(low + gap + i * (2 * gap), low + gap + i * (2 * gap) + gap)] := by
        unfold rowL
        rw [List.range_succ, List.map_append]
        rfl
      rw [er, ← List.append_assoc]
      have ep2 : (upd H' t (.tup [.int ((low + gap + i * (2 * gap) : Nat) : Int), .int (((low + gap + i * (2 * gap) : Nat) : Int) + (gap : Int))])) p = some (.lst xs) := by
        rw [upd_ne pt]
        exact ep
      refine ((gx.keep st).write ep2).app (.cons ⟨t, rfl, ?_⟩ .nil)
      rw [upd_ne pt.symm, upd_same]
      have e2 : ((low + gap + i * (2 * gap) : Nat) : Int) + (gap : Int) = ((low + gap + i * (2 * gap) + gap : Nat) : Int) := by omega
      rw [e2]
    · have e2 : ((low + gap + i * (2 * gap) : Nat) : Int) + (2 : Int) * (gap : Int) = ((low + gap + (i + 1) * (2 * gap) : Nat) : Int) := by
        rw [Nat.add_mul, Nat.one_mul]
        omega
      rw [← e2]
      rfl
  · -- return found
    have d' : ¬ i + 1 ≤ cnt := fun z => by
      have a := (turns i).mpr z
      have b := of_decide_eq_false (Bool.eq_false_iff.mpr d)
      omega
    have ei : i = cnt := by omega
    refine ⟨_, rfl, q H' p xs sm fp ep ?_⟩
    unfold mergedL
    rw [if_neg (by omega), hc, ← ei]
    exact gx
theorem no_merged {f : Addr} {fd : FuncData} : FnOk P w K mg base CX0 0 f fd ["low", "size", "gap"] (spMerged 0) := by
  have no : ∀ vs H Q E, ¬ spMerged 0 vs H Q E := fun vs H Q E ⟨low, size, gap, _, _, h1, _, h2, _⟩ => by
    rw [Nat.pow_zero, Nat.mul_one] at h2
    omega
  exact ⟨fun vs H Q E h => (no vs H Q E h).elim, fun A outer s H args us vs Q E _ _ _ _ h => (no vs H Q E h).elim⟩
theorem all_merged {f : Addr} {fd : FuncData} (F : Fun K "merged" "merged" sMerged f fd) (bF : Binds K fd ["low", "size", "gap"] []) (mF : mg "merged" = some (.ref f)) :
    ∀ n : Nat, FnOk P w K mg base CX0 n f fd ["low", "size", "gap"] (spMerged n)
  | 0 => no_merged
  | n + 1 => ok_merged F (all_merged F bF mF n) bF mF

/-! ### sorted_gates: 2 ** n places -/
def spSorted (n : Nat) : Sp := fun vs H Q _ => ∃ low : Nat, vs = [.int (low : Int), .int ((2 ^ n : Nat) : Int)] ∧ n ≤ 6 ∧
  ∀ H' r xs, Same H H' → H r = none → H' r = some (.lst xs) → Gs H' xs (sortedL n low) → Q (.ref r) H'
theorem ok_sorted0 {k : Nat} {f : Addr} {fd : FuncData} (F : Fun K "sorted_gates" "sorted_gates" sSorted f fd) : FnOk P w K mg base CX0 (k + 1) f fd ["low", "size"] (spSorted 0) := by
  refine F.ok scSorted (fun vs H Q E h => ?_) (fun cdv A outer s H vs Q E hr h => ?_)
  · obtain ⟨low, rfl, _⟩ := h
    rfl
  obtain ⟨low, rfl, _, q⟩ := h
  refine ⟨_, pss_cons (ps_if (pt_cmpR op_eq (pv 1) pe_int (nomark _)) (pss_one (ps_ret (pe_lst pa_nil))) pss_nil) pss_never, ?_⟩
  refine ⟨_, rfl, rfl, _, rfl, iteT ⟨Nat.zero_le _, fun r nr => ?_⟩⟩
  exact q _ r [] (new_same nr) nr upd_same .nil
theorem ok_sorted {n : Nat} {f g : Addr} {fd gd : FuncData} (F : Fun K "sorted_gates" "sorted_gates" sSorted f fd) (R : FnOk P w K mg base CX0 (n + 2) f fd ["low", "size"] (spSorted n)) (bF : Binds K fd ["low", "size"] []) (mF : mg "sorted_gates" = some (.ref f))
    (G : FnOk P w K mg base CX0 (n + 1) g gd ["low", "size", "gap"] (spMerged (n + 1))) (kG : PySem.W.keepIn K (.ref g) = true) (bG : Binds K gd ["low", "size", "gap"] []) (mG : mg "merged" = some (.ref g)) :
    FnOk P w K mg base CX0 (n + 3) f fd ["low", "size"] (spSorted (n + 1)) := by
  refine F.ok scSorted (fun vs H Q E h => ?_) (fun cdv A outer s H vs Q E hr h => ?_)
  · obtain ⟨low, rfl, _⟩ := h
    rfl
  obtain ⟨low, rfl, hn, q⟩ := h
  have hr1 : Room (n + 1) _ := hr.mono (Nat.le_succ _)
  refine ⟨_, pss_cons (ps_if (pt_cmpR op_eq (pv 1) pe_int (nomark _)) (pss_one (ps_ret (pe_lst pa_nil))) pss_nil)
    (pss_cons (ps_set (i := 2) scSorted.nd rfl (.inl rfl) (pe_op op_fdiv (pv 1) pe_int))
    (pss_one (ps_ret (pe_op op_cat (pe_op op_cat (pe_call R hr (by rfl) mF F.kp bF .nil pass0 (pa_cons (pv 0) (pa_cons (pv 2) pa_nil)))
        (pe_call R hr (by rfl) mF F.kp bF .nil pass0 (pa_cons (pe_op op_add (pv 0) (pv 2)) (pa_cons (pv 2) pa_nil))))
      (pe_call G hr1 (by rfl) mG kG bG .nil pass0 (pa_cons (pv 0) (pa_cons (pv 1) (pa_cons pe_int pa_nil)))))))), ?_⟩
  have hp : 2 ^ (n + 1) = 2 * 2 ^ n := by rw [Nat.pow_succ, Nat.mul_comm]
  have h1 : 1 ≤ 2 ^ n := Nat.one_le_two_pow
  have h64 : 2 ^ (n + 1) ≤ 64 := Nat.le_trans (Nat.pow_le_pow_right (by decide) hn) (by decide)
  have en : ((2 ^ (n + 1) : Nat) : Int) ≠ 1 := by
    rw [hp]
    omega
  -- if size == 1
  refine ⟨_, rfl, rfl, _, rfl, ?_⟩
  rw [decide_eq_false (fun z => en (V.int.inj z))]
  refine iteF ?_
  -- half = size // 2
  refine ⟨_, rfl, _, _, rfl, rfl, ⟨by decide, by decide⟩, ?_⟩
  have eh : ((2 ^ (n + 1) : Nat) : Int) / 2 = ((2 ^ n : Nat) : Int) := by
    rw [hp]
    omega
  have el : (low : Int) + ((2 ^ (n + 1) : Nat) : Int) / 2 = ((low + 2 ^ n : Nat) : Int) := by
    rw [eh]
    omega
  -- the three parts
  refine ⟨_, rfl, _, rfl, low, ints2 rfl eh, by omega, fun H1 r1 x1 s1 n1 e1 g1 => ?_⟩
  refine ⟨_, rfl, _, rfl, _, _, rfl, rfl, _, rfl, low + 2 ^ n, ints2 el eh, by omega, fun H2 r2 x2 s2 n2 e2 g2 => ?_⟩
  have l1 : x1.length ≤ 30000 := by
    rw [g1.len]
    exact sorted_small (by omega)
  have l2 : x2.length ≤ 30000 := by
    rw [g2.len]
    exact sorted_small (by omega)
  refine ⟨r1, r2, x1, x2, rfl, rfl, s2 _ _ e1, e2, size_of (by omega), fun p np => ?_⟩
  have s3 : Same H (upd H2 p (.lst (x1 ++ x2))) := (s1.trans s2).trans (new_same np)
  have g3 : Gs (upd H2 p (.lst (x1 ++ x2))) (x1 ++ x2) (sortedL n low ++ sortedL n (low + 2 ^ n)) := ((g1.keep s2).app g2).keep (new_same np)
  refine ⟨_, rfl, _, rfl, low, 2 ^ (n + 1), 1, rfl, by decide, by omega, h64, by omega, by omega, fun H4 r4 x4 s4 n4 e4 g4 => ?_⟩
  have l4 : x4.length ≤ 8192 := by
    rw [g4.len]
    exact merged_few h64 (by omega)
  refine ⟨p, r4, x1 ++ x2, x4, rfl, rfl, s4 _ _ upd_same, e4, size_of (by rw [List.length_append]; omega), fun t nt => ?_⟩
  refine q _ t (x1 ++ x2 ++ x4) ((s3.trans s4).trans (new_same nt)) ((s3.trans s4).free nt) upd_same ?_
  exact ((g3.keep s4).app g4).keep (new_same nt)
theorem all_sorted {f g : Addr} {fd gd : FuncData} (F : Fun K "sorted_gates" "sorted_gates" sSorted f fd) (bF : Binds K fd ["low", "size"] []) (mF : mg "sorted_gates" = some (.ref f))
    (M : Fun K "merged" "merged" sMerged g gd) (bM : Binds K gd ["low", "size", "gap"] []) (mM : mg "merged" = some (.ref g)) : ∀ n : Nat, FnOk P w K mg base CX0 (n + 2) f fd ["low", "size"] (spSorted n)
  | 0 => ok_sorted0 F
  | n + 1 => ok_sorted F (all_sorted F bF mF M bM mM n) bF mF (all_merged M bM mM (n + 1)) M.kp bM mM
/-- for each number of doublings up to six -/
def spSortedAll : Sp := fun vs H Q E => ∃ n : Nat, n ≤ 6 ∧ spSorted n vs H Q E
theorem every_sorted {f g : Addr} {fd gd : FuncData} (F : Fun K "sorted_gates" "sorted_gates" sSorted f fd) (bF : Binds K fd ["low", "size"] []) (mF : mg "sorted_gates" = some (.ref f))
    (M : Fun K "merged" "merged" sMerged g gd) (bM : Binds K gd ["low", "size", "gap"] []) (mM : mg "merged" = some (.ref g)) : FnOk P w K mg base CX0 8 f fd ["low", "size"] spSortedAll :=
  fn_each (sp := spSorted) fun n hn => (all_sorted F bF mF M bM mM n).mono (by omega)

/-! ### gates -/
def spGates : Sp := fun vs H Q _ => ∃ m : Nat, vs = [.int (m : Int)] ∧ 1 ≤ m ∧ m ≤ 64 ∧
  ∀ H' p xs, Same H H' → H p = none → H' p = some (.tup xs) → Gs H' xs (gatesL m) → Q (.ref p) H'
theorem ok_gates {f d g : Addr} {fd dd gd : FuncData} (F : Fun K "gates" "gates" sGates f fd) (D : FnOk P w K mg base CX0 8 d dd ["many"] spDbl) (kD : PySem.W.keepIn K (.ref d) = true) (bD : Binds K dd ["many"] []) (mD : mg "doublings" = some (.ref d))
    (G : FnOk P w K mg base CX0 8 g gd ["low", "size"] spSortedAll) (kG : PySem.W.keepIn K (.ref g) = true) (bG : Binds K gd ["low", "size"] []) (mG : mg "sorted_gates" = some (.ref g)) (mT : mg "tuple" = none) :
    FnOk P w K mg base CX0 9 f fd ["many"] spGates := by
  refine F.ok scGates (fun vs H Q E h => ?_) (fun cdv A outer s H vs Q E hr h => ?_)
  · obtain ⟨m, rfl, _⟩ := h
    rfl
  obtain ⟨m, rfl, h1, h2, q⟩ := h
  refine ⟨_, pss_cons (ps_asg (pe_call D hr (by rfl) mD kD bD .nil pass0 (pa_cons (pv 0) pa_nil)) (pg_tup rfl (pgs_cons (pg_name (i := 1) scGates.nd rfl (.inl rfl)) (pgs_cons (pg_name (i := 2) scGates.nd rfl (.inl rfl)) pgs_nil))))
    (pss_one (ps_ret (pe_callTy call_tuple_of (by rfl) mT (by decide +kernel) (pa_cons (pe_lc (own := [("gate", 3)]) (g := gName 3) (by rfl) scGates.nd
      (pi_list (pe_call G hr (by rfl) mG kG bG .nil pass0 (pa_cons pe_int (pa_cons (pv 2) pa_nil))))
      (blkOk_by (N := ["many", "found", "size", "gate"]) (sc := defScope sGates) (by decide +kernel))
      (fun _ _ _ _ _ => pg_name (i := 3) scGates.nd rfl (Or.inl rfl))
      (fun _ _ _ _ _ => pts_one (pt_cmpR op_lt (pe_ix (r := rIxT K) ix_tup (pv 3) pe_int (fun _ _ => rfl)) (pv 0) (nomark _)))
      (fun _ _ _ _ _ => pv 3)) pa_nil)))), ?_⟩
  refine ⟨_, rfl, m, rfl, h1, h2, fun H1 z s1 nz e1 => ⟨z, _, rfl, SqT.of e1, rfl, _, _, rfl, _, _, rfl, rfl, ?_⟩⟩
  -- sorted_gates(0, size)
  refine ⟨_, rfl, dbl m, dbl_le m, 0, rfl, dbl_le m, fun H2 r xs s2 nr er gx => ⟨r, rfl, ⟨xs, SqL.of er⟩, fun C nC => ?_⟩⟩
  have s12 : Same H H2 := s1.trans s2
  have fC : H C = none := s12.free nC
  refine lc_list (K := K) (a := r) (xs := xs) (fun i H' => ∃ ys : List V, Same H2 H' ∧ H' C = some (.lst ys) ∧ Gs H' ys (((sortedL (dbl m) 0).take i).filter (keepG m))) ⟨[], new_same nC, upd_same, .nil⟩
    (fun i H' _ ⟨ys, a1, _, _⟩ => a1.seq (SqL.of er)) (fun i x H' hx ⟨ys, a1, a2, a3⟩ => ?_) (fun H' ⟨ys, a1, a2, a3⟩ => ?_)
  · -- one gate
    obtain ⟨t, g, rfl, hg, ht⟩ := gx.get hx
    have ht' := a1 _ _ ht
    have et : (sortedL (dbl m) 0).take (i + 1) = (sortedL (dbl m) 0).take i ++ [g] := by
      rw [List.take_add_one, hg]
      rfl
    refine ⟨rfl, _, rfl, t, _, 1, _, rfl, rfl, SqT.of ht', atI_nat (j := 1) rfl, _, rfl, _, _, rfl, rfl, _, rfl, ite2 (fun c => ?_) (fun c => ?_)⟩
    · have c' : g.2 < m := by
        have := of_decide_eq_true c
        omega
      have ly : ys.length ≤ 30000 := by
        rw [a3.len]
        refine Nat.le_trans (List.length_filter_le _ _) ?_
        rw [List.length_take]
        exact Nat.le_trans (Nat.min_le_right _ _) (sorted_small (dbl_le m))
      refine ⟨_, rfl, ys, a2, size_lt (by omega), ys ++ [.ref t], fun b u e => ?_, upd_same, ?_⟩
      · rw [upd_ne (ne_of_none e nC)]
        exact a1 _ _ e
      · rw [et, List.filter_append]
        have ek : [g].filter (keepG m) = [g] := by
          show (match keepG m g with | true => [g] | false => []) = [g]
          rw [show keepG m g = true from decide_eq_true c']
        rw [ek]
        refine (a3.write a2).app (.cons ⟨t, rfl, ?_⟩ .nil)
        rw [upd_ne (ne_of ht' a2 (by intro z; cases z))]
        exact ht'
    · have c' : ¬ g.2 < m := by
        have := of_decide_eq_false (Bool.eq_false_iff.mpr c)
        omega
      refine ⟨ys, a1, a2, ?_⟩
      rw [et, List.filter_append]
      have ek : [g].filter (keepG m) = [] := by
        show (match keepG m g with | true => [g] | false => []) = []
        rw [show keepG m g = false from decide_eq_false c']
      rw [ek, List.append_nil]
      exact a3
  · -- tuple(..)
    have el : (sortedL (dbl m) 0).take xs.length = sortedL (dbl m) 0 := by
      rw [gx.len]
      exact List.take_length
    rw [el] at a3
    refine ⟨C, ys, rfl, .inl ⟨SqL.of a2, fun p np => ?_⟩⟩
    exact q _ p ys ((s12.trans a1).trans (new_same np)) ((s12.trans a1).free np) upd_same (a3.keep (new_same np))
end
end G40
/-! The law's own helpers, each walked once. -/
namespace G40
open PySem PySem.Spec PyProof.Rows L2

/-! ### lists of ints as data -/
def intsD (ns : List Int) : PyData := .list (ns.map .int)
theorem ints_data {K : PySem.W.Frag} {H : Hp} : ∀ ns : List Int, DpAll K H (ns.map V.int) (ns.map .int)
  | [] => .nil
  | n :: ns => .cons (.int n) (ints_data ns)
theorem ints_lay : ∀ ns : List Int, PyData.canLayAll0 (ns.map .int) = true
  | [] => by simp only [List.map_nil, PyData.canLayAll0]
  | n :: ns => by simp only [List.map_cons, PyData.canLayAll0, PyData.canLay0, ints_lay ns, Bool.and_self]
theorem ints_deep : ∀ ns : List Int, PyData.depthAll (ns.map .int) = 0
  | [] => by simp only [List.map_nil, PyData.depthAll]
  | n :: ns => by simp only [List.map_cons, PyData.depthAll, PyData.depth, ints_deep ns, Nat.max_self]
theorem ints_shaped (ns : List Int) : SeqAt.shaped (intsD ns) = true := by
  have a : PyData.canLay0 (intsD ns) = true := by
    show PyData.canLay0 (.list (ns.map .int)) = true
    simp only [PyData.canLay0, ints_lay ns]
  have b : PyData.depth (intsD ns) = 1 := by
    show PyData.depth (.list (ns.map .int)) = 1
    simp only [PyData.depth, ints_deep ns]
  unfold SeqAt.shaped
  rw [a, b]
  rfl
theorem ints_self (ns : List Int) : PyData.eqv (intsD ns) (intsD ns) = true := SeqAt.eqv_refl _ (by
  show PyData.canLay0 (.list (ns.map .int)) = true
  simp only [PyData.canLay0, ints_lay ns])
theorem ints_nil (n : Int) (ns : List Int) : PyData.eqv (intsD (n :: ns)) (intsD []) = false := by
  show PyData.eqv (.list (.int n :: ns.map .int)) (.list []) = false
  simp only [PyData.eqv, PyData.eqvAll]
theorem ints_dp {K : PySem.W.Frag} {H : Hp} {a : Addr} {ns : List Int} (h : SqL K H a (ns.map V.int)) : Dp K H (.ref a) (intsD ns) := .lst h (ints_data ns)

/-! ### the jar -/
abbrev kFar : Key := Sum.inr "far"
abbrev kSt : Key := Sum.inr "stirred"
abbrev kTn : Key := Sum.inr "turn"
def jarK (q : Addr) (st tn : Int) : List (Key × V) := [(kFar, .ref q), (kSt, .int st), (kTn, .int tn)]
theorem far_st : ¬ (kFar = kSt) := fun e => absurd (Sum.inr.inj e) (by decide +kernel)
theorem far_tn : ¬ (kFar = kTn) := fun e => absurd (Sum.inr.inj e) (by decide +kernel)
theorem st_tn : ¬ (kSt = kTn) := fun e => absurd (Sum.inr.inj e) (by decide +kernel)
theorem jar_far (q : Addr) (st tn : Int) : valV (jarK q st tn) kFar = some (.ref q) := valV_pos rfl
theorem jar_st (q : Addr) (st tn : Int) : valV (jarK q st tn) kSt = some (.int st) := by
  unfold jarK
  rw [valV_neg far_st]
  exact valV_pos rfl
theorem jar_tn (q : Addr) (st tn : Int) : valV (jarK q st tn) kTn = some (.int tn) := by
  unfold jarK
  rw [valV_neg far_tn, valV_neg st_tn]
  exact valV_pos rfl
theorem jar_put (q : Addr) (st tn z : Int) : putK (jarK q st tn) kTn (.int z) = jarK q st z := by
  have e : ((jarK q st tn).any fun kv => decide (kv.1 = kTn)) = true := by
    rw [valV_any, jar_tn]
    rfl
  unfold putK
  rw [if_pos e]
  show [(if kFar = kTn then (kFar, V.int z) else (kFar, .ref q)), (if kSt = kTn then (kSt, V.int z) else (kSt, .int st)), (if kTn = kTn then (kTn, V.int z) else (kTn, .int tn))] = jarK q st z
  rw [if_neg far_tn, if_neg st_tn, if_pos rfl]
  rfl
theorem jar_new (q : Addr) (st tn : Int) : mergeK [] [(kFar, .ref q), (kSt, .int st), (kTn, .int tn)] = jarK q st tn := by
  show putK (putK (putK [] kFar (.ref q)) kSt (.int st)) kTn (.int tn) = jarK q st tn
  have a : putK [] kFar (.ref q) = [(kFar, V.ref q)] := putK_new _ rfl
  have b : putK [(kFar, V.ref q)] kSt (.int st) = [(kFar, V.ref q), (kSt, .int st)] := putK_new _ (by
    rw [valV_neg far_st]
    rfl)
  have c : putK [(kFar, V.ref q), (kSt, .int st)] kTn (.int tn) = [(kFar, V.ref q), (kSt, .int st), (kTn, .int tn)] := putK_new _ (by
    rw [valV_neg far_tn, valV_neg st_tn]
    rfl)
  rw [a, b, c]
  rfl
/-- a jar stands at p, its great cells at q -/
def Jar (H : Hp) (p q : Addr) : Prop := ∃ (fs : List Int) (st tn : Int), H p = some (.dK (jarK q st tn)) ∧ H q = some (.lst (fs.map V.int)) ∧ fs.length ≤ 63
/-- all else is as it was -/
def But (p q : Addr) (H H' : Hp) : Prop := ∀ b o, b ≠ p → b ≠ q → H b = some o → H' b = some o

abbrev sJar : Stmt := topS 7
abbrev sDraw : Stmt := topS 8
theorem scJar : FnScope ["_law_script", "_law_cell", "_law_cells", "_law_stirred"] ["_law_script"] (defScope sJar) := ⟨rfl, rfl, rfl, by decide +kernel, rfl, by decide +kernel, by decide +kernel⟩
theorem scDraw : FnScope ["_law_jar_here", "_law_many", "_law_whole", "_law_one", "_law_two"] ["_law_jar_here", "_law_many"] (defScope sDraw) := ⟨rfl, rfl, rfl, by decide +kernel, rfl, by decide +kernel, by decide +kernel⟩
section
variable {P : Program} {w : World} {K : PySem.W.Frag} {mg : Str → Option Value} {base : Heap}

theorem cut_ints (ns : List Int) (lo hi : Option Int) : ∃ zs : List Int, cutV (ns.map V.int) lo hi = zs.map V.int ∧ zs.length ≤ ns.length := by
  refine ⟨(ns.drop (HT.sIx (ns.map V.int).length 0 lo)).take (HT.sIx (ns.map V.int).length (ns.map V.int).length hi - HT.sIx (ns.map V.int).length 0 lo), ?_, ?_⟩
  · unfold cutV
    rw [List.map_take, List.map_drop]
  · rw [List.length_take, List.length_drop]
    omega
theorem int_at {ns : List Int} {i : Nat} {x : V} (h : (ns.map V.int)[i]? = some x) : ∃ n : Int, x = .int n ∧ ns[i]? = some n := by
  rw [List.getElem?_map] at h
  cases e : ns[i]? with
  | none =>
    rw [e] at h
    cases h
  | some n =>
    rw [e] at h
    exact ⟨n, (Option.some.inj h).symm, rfl⟩

def spJar (K : PySem.W.Frag) : Sp := fun vs H Q _ => ∃ (a : Addr) (ns : List Int), vs = [.ref a] ∧ SqL K H a (ns.map V.int) ∧ ns.length ≤ 63 ∧
  ∀ H' p q, Same H H' → H p = none → H q = none → Jar H' p q → Q (.ref p) H'
theorem ok_jar {f : Addr} {fd : FuncData} {k : Nat} (F : Fun K "_law_jar" "_law_jar" sJar f fd) (mL : mg "len" = none) (mA : mg "abs" = none) (mI : mg "int" = none) :
    FnOk P w K mg base CX0 (k + 1) f fd ["_law_script"] (spJar K) := by
  refine F.ok scJar (fun vs H Q E h => ?_) (fun cdv A outer s H vs Q E hr h => ?_)
  · obtain ⟨a, ns, rfl, _⟩ := h
    rfl
  obtain ⟨a, ns, rfl, hS, hlen, q⟩ := h
  refine ⟨_, pss_cons (ps_par (i := 2) (j := 3) rfl scJar.nd rfl rfl (by decide) rfl rfl (pa_cons
        (pe_lc (own := [("_law_cell", 1)]) (g := gName 1) (tt := tYes) (by rfl) scJar.nd (pi_list (pe_slice sl_list (pv 0) po_none (po_some pe_int)))
          (blkOk_by (N := ["_law_script", "_law_cell", "_law_cells", "_law_stirred"]) (sc := defScope sJar) (by decide +kernel))
          (fun _ _ _ _ _ => pg_name (i := 1) scJar.nd rfl (Or.inl rfl)) (fun _ _ _ _ _ => pts_nil)
          (fun _ _ _ _ _ => pe_op op_add (pe_op op_mul pe_int (pe_callB call_abs (by rfl) mA (by decide +kernel) (pa_cons (pv 1) pa_nil)))
            (pe_callTy call_int1 (by rfl) mI (by decide +kernel) (pa_cons (pe_cmpR op_lt (pv 1) pe_int (nomark _)) pa_nil))))
        (pa_cons (pe_op op_add pe_int (pe_callB call_len_seq (by rfl) mL PySem.boot_len (pa_cons (pv 0) pa_nil))) pa_nil)) (by rfl))
    (pss_cons (ps_for PassesOwn.never rfl (pi_list (pv 2)) (pg_name (i := 1) scJar.nd rfl (.inl rfl))
      (pss_one (ps_set (i := 3) scJar.nd rfl (.inl rfl) (pe_op op_mod (pe_callTy call_int1 (by rfl) mI (by decide +kernel) (pa_cons (pe_op op_add (pe_op op_add (pe_op op_mul (pv 3) pe_int) (pv 1)) pe_int) pa_nil)) pe_int))))
    (pss_one (ps_ret (pe_disp (pps_cons pe_str (pe_lc (own := [("_law_cell", 1)]) (g := gName 1) (by rfl) scJar.nd (pi_list (pv 2))
          (blkOk_by (N := ["_law_script", "_law_cell", "_law_cells", "_law_stirred"]) (sc := defScope sJar) (by decide +kernel))
          (fun _ _ _ _ _ => pg_name (i := 1) scJar.nd rfl (Or.inl rfl))
          (fun _ _ _ _ _ => pts_one (pt_cmpR op_ge (pv 1) (pe_op op_pow pe_int pe_int) (nomark _))) (fun _ _ _ _ _ => pv 1))
        (pps_cons pe_str (pv 3) (pps_cons pe_str pe_int pps_nil))) (by rfl) (by rfl) (fun z => by cases z) (by decide))))), ?_⟩
  -- script[:63]
  refine ⟨_, rfl, 63, rfl, a, _, rfl, hS, fun c nc => ?_⟩
  obtain ⟨zs, ez, lz⟩ := cut_ints ns none (some 63)
  rw [ez]
  have s1 : Same H (upd H c (.lst (zs.map V.int))) := new_same nc
  refine ⟨c, rfl, ⟨_, SqL.of upd_same⟩, fun D nD => ?_⟩
  have fD : H D = none := s1.free nD
  refine lc_list (K := K) (a := c) (xs := zs.map V.int) (fun i H' => ∃ cs : List Int, cs.length = i ∧ Same (upd H c (.lst (zs.map V.int))) H' ∧ H' D = some (.lst (cs.map V.int))) ⟨[], rfl, new_same nD, upd_same⟩
    (fun i H' _ ⟨cs, _, a1, _⟩ => a1.seq (SqL.of upd_same)) (fun i x H' hx ⟨cs, lc, a1, a2⟩ => ?_) (fun H2 ⟨cs, lc, a1, a2⟩ => ?_)
  · -- one cell
    obtain ⟨n, rfl, hn⟩ := int_at hx
    have hi : i < zs.length := (List.getElem?_eq_some_iff.mp hn).1
    refine ⟨rfl, ⟨_, rfl, n, rfl, _, _, rfl, rfl, .inl ⟨by decide, by decide⟩, _, rfl, _, _, rfl, rfl, .inr ⟨_, rfl, _, _, rfl, rfl, cs.map V.int, a2, ?_, ?_⟩⟩⟩
    · rw [List.length_map]
      exact size_lt (by omega)
    · refine ⟨cs ++ [2 * (if n < 0 then -n else n) + (if decide (n < 0) = true then 1 else 0)], by rw [List.length_append, lc]; rfl, fun b u e => ?_, ?_⟩
      · rw [upd_ne (ne_of_none e nD)]
        exact a1 _ _ e
      · rw [upd_same, List.map_append]
        rfl
  -- 40063 + len(script)
  have s2 : Same H H2 := s1.trans a1
  refine ⟨_, rfl, a, _, rfl, .inl (s2.seq hS), _, _, rfl, rfl, _, _, rfl, ?_⟩
  -- the loop
  refine ⟨_, rfl, D, rfl, ⟨_, SqL.of a2⟩, for_list (K := K) (a := D) (xs := cs.map V.int) (fun i σ H' => H' = H2 ∧ ∃ (y : Option V) (st : Int), σ = [some (.ref a), y, some (.ref D), some (.int st)])
    ⟨rfl, _, _, rfl⟩ (fun i σ H' _ ⟨e, _⟩ => by rw [e]; exact SqL.of a2) (fun i x σ H' hx ⟨e, y, st, e2⟩ => ?_) (fun σ H' ⟨e, y, st, e2⟩ => ?_)⟩
  · subst e
    subst e2
    obtain ⟨n, rfl, hn⟩ := int_at hx
    exact ⟨_, rfl, _, _, rfl, rfl, .inr ⟨by decide, by decide⟩, _, rfl, _, _, rfl, rfl, _, _, rfl, rfl, .inl ⟨_, rfl, _, _, rfl, rfl, (by show (0 : Int) < 4294967291; decide), rfl, _, _, rfl⟩⟩
  subst e
  subst e2
  -- the dict
  intro p np
  have fp : H p = none := s2.free np
  have pD : D ≠ p := ne_of_none a2 np
  have s3 : Same H' (upd H' p (.dK [])) := new_same np
  refine ⟨_, rfl, D, rfl, ⟨_, SqL.of (s3 _ _ a2)⟩, fun C nC => ?_⟩
  have fC : H C = none := (s2.trans s3).free nC
  refine lc_list (K := K) (a := D) (xs := cs.map V.int) (fun i H4 => ∃ fs : List Int, fs.length ≤ i ∧ Same (upd H' p (.dK [])) H4 ∧ H4 C = some (.lst (fs.map V.int))) ⟨[], Nat.le_refl _, new_same nC, upd_same⟩
    (fun i H4 _ ⟨fs, _, b1, _⟩ => b1.seq (SqL.of (s3 _ _ a2))) (fun i x H4 hx ⟨fs, lf, b1, b2⟩ => ?_) (fun H4 ⟨fs, lf, b1, b2⟩ => ?_)
  · obtain ⟨n, rfl, hn⟩ := int_at hx
    have hi : i < cs.length := (List.getElem?_eq_some_iff.mp hn).1
    rw [List.length_map] at lc
    refine ⟨rfl, _, rfl, _, _, rfl, rfl, ⟨by decide, by decide, by decide⟩, _, _, rfl, rfl, _, rfl, ite2 (fun d => ?_) (fun d => ?_)⟩
    · refine ⟨_, rfl, fs.map V.int, b2, ?_, fs ++ [n], by rw [List.length_append]; exact Nat.succ_le_succ lf, fun b u e => ?_, ?_⟩
      · rw [List.length_map]
        exact size_lt (by omega)
      · rw [upd_ne (ne_of_none e nC)]
        exact b1 _ _ e
      · rw [upd_same, List.map_append]
        rfl
    · exact ⟨fs, Nat.le_succ_of_le lf, b1, b2⟩
  -- the three pairs
  have e4 : H4 p = some (.dK []) := b1 _ _ upd_same
  have pC : C ≠ p := ne_of b2 e4 (by intro z; cases z)
  refine ⟨_, rfl, e4, [(kFar, .ref C), (kSt, .int st), (kTn, .int 0)], rfl, (by show 3 ≤ 15; decide), ?_⟩
  rw [jar_new]
  refine q _ p C (fun b u e => ?_) fp fC ⟨fs, st, 0, upd_same, ?_, ?_⟩
  · rw [upd_ne (ne_of_none e fp)]
    exact b1 _ _ (s3 _ _ (s2 _ _ e))
  · rw [upd_ne pC]
    exact b2
  · rw [List.length_map] at lf lc
    omega

def spDraw : Sp := fun vs H Q _ => ∃ (p q : Addr) (m : Int), vs = [.ref p, .int m] ∧ 1 ≤ m ∧ m ≤ 1000 ∧ Jar H p q ∧
  ∀ (H' : Hp) (v : Int), 0 ≤ v → v < m → Jar H' p q → But p q H H' → Q (.int v) H'
theorem ok_draw {f : Addr} {fd : FuncData} {k : Nat} (F : Fun K "_law_draw" "_law_draw" sDraw f fd) (mI : mg "int" = none) :
    FnOk P w K mg base CX0 (k + 1) f fd ["_law_jar_here", "_law_many"] spDraw := by
  refine F.ok scDraw (fun vs H Q E h => ?_) (fun cdv A outer s H vs Q E hr h => ?_)
  · obtain ⟨p, q, m, rfl, _⟩ := h
    rfl
  obtain ⟨p, q, m, rfl, h1, h2, ⟨fs, st, tn, hp, hq, hl⟩, kk⟩ := h
  have hu := hu_of hr
  have pq : p ≠ q := ne_of hp hq (by intro z; cases z)
  refine ⟨_, pss_cons (ps_if (pt_cmpR op_lt (pv 1) pe_int (nomark _)) (pss_one (ps_ret pe_int)) pss_nil)
    (pss_cons (ps_if (pt_cmpR (op_neD hr.units) (pe_dget hu (pv 0) pe_str (fun _ _ => rfl)) (pe_lst pa_nil) (nomark _))
      (pss_cons (ps_set (i := 2) scDraw.nd rfl (.inl rfl) (pe_bm0 PySem.F.plainAttrs_list PySem.F.slot_list_pop PySem.F.type_list_pop mt_pop (pe_dget hu (pv 0) pe_str (fun _ _ => rfl))))
      (pss_cons (ps_if (pt_cmpR op_ge (pv 2) (pv 1) (nomark _))
        (pss_one (ps_expr (pe_bm PySem.F.plainAttrs_list PySem.F.slot_list_append PySem.F.type_list_append mt_append (pe_dget hu (pv 0) pe_str (fun _ _ => rfl)) (pa_cons (pe_op op_fdiv (pv 2) (pv 1)) pa_nil)))) pss_nil)
      (pss_one (ps_ret (pe_op op_mod (pe_callTy call_int1 (by rfl) mI (by decide +kernel) (pa_cons (pv 2) pa_nil)) (pv 1)))))) pss_nil)
    (pss_cons (ps_dput hu (pv 0) pe_str (pe_op op_add (pe_dget hu (pv 0) pe_str (fun _ _ => rfl)) pe_int) rfl)
    (pss_cons (ps_set (i := 3) scDraw.nd rfl (.inl rfl) (pe_op op_mod (pe_callTy call_int1 (by rfl) mI (by decide +kernel) (pa_cons (pe_op op_add (pe_dget hu (pv 0) pe_str (fun _ _ => rfl)) (pe_op op_mul (pe_dget hu (pv 0) pe_str (fun _ _ => rfl)) pe_int)) pa_nil)) pe_int))
    (pss_cons (ps_set (i := 4) scDraw.nd rfl (.inl rfl) (pe_op op_mod (pe_callTy call_int1 (by rfl) mI (by decide +kernel) (pa_cons (pe_op op_add (pe_op op_add (pe_op op_mul (pv 3) (pv 3)) (pe_op op_mul (pe_dget hu (pv 0) pe_str (fun _ _ => rfl)) pe_int)) pe_int) pa_nil)) pe_int))
    (pss_one (ps_ret (pe_op op_mod (pe_op op_fdiv (pe_op op_mod (pe_callTy call_int1 (by rfl) mI (by decide +kernel) (pa_cons (pe_op op_add (pe_op op_mul (pv 4) (pv 4)) (pv 3)) pa_nil)) pe_int) pe_int) (pv 1)))))))), ?_⟩
  -- if many < 2
  refine ⟨_, rfl, _, _, rfl, rfl, _, rfl, ite2 (fun c => ?_) (fun c => ?_)⟩
  · exact kk H 0 (by decide) (by omega) ⟨fs, st, tn, hp, hq, hl⟩ fun _ _ _ _ e => e
  -- if far != []
  refine ⟨_, rfl, p, _, rfl, DGet.k (k := kFar) hp, (by show 0 ≤ sizeLine; decide), fun l nl => ?_⟩
  have s1 : Same H (upd H l (.lst [])) := new_same nl
  have hp1 := s1 _ _ hp
  have hq1 := s1 _ _ hq
  refine ⟨intsD fs, intsD [], ints_dp (SqL.of hq1), .lst (SqL.of upd_same) .nil, ints_shaped fs, ints_shaped [], _, rfl, ?_⟩
  have b1 : But p q H (upd H l (.lst [])) := fun b o _ _ e => s1 _ _ e
  cases fs with
  | cons n r =>
    rw [ints_nil]
    refine iteT ?_
    -- far.pop()
    have hlast : ((n :: r).map V.int)[((n :: r).map V.int).length - 1]? = some (.int ((n :: r).getLast (List.cons_ne_nil _ _))) := by
      rw [List.length_map, List.getElem?_map, ← List.getLast?_eq_getElem?, List.getLast?_eq_some_getLast (List.cons_ne_nil n r)]
      rfl
    generalize hz : (n :: r).getLast (List.cons_ne_nil _ _) = z at hlast
    refine ⟨_, rfl, p, _, rfl, DGet.k (k := kFar) hp1, .inl ⟨rfl, _, SqL.of hq1⟩, q, _, _, rfl, rfl, hq1, hlast, ?_⟩
    have hp2 : (upd (upd H l (.lst [])) q (.lst ((n :: r).map V.int).dropLast)) p = some (.dK (jarK q st tn)) := by
      rw [upd_ne pq]
      exact hp1
    have hq2 : (upd (upd H l (.lst [])) q (.lst ((n :: r).map V.int).dropLast)) q = some (.lst ((n :: r).dropLast.map V.int)) := by
      rw [upd_same, List.map_dropLast]
    have b2 : But p q H (upd (upd H l (.lst [])) q (.lst ((n :: r).map V.int).dropLast)) := fun b o x y e => by
      rw [upd_ne y]
      exact s1 _ _ e
    have ld : (n :: r).dropLast.length + 1 ≤ 63 := by
      rw [List.length_dropLast, List.length_cons] at *
      omega
    generalize (upd (upd H l (.lst [])) q (.lst ((n :: r).map V.int).dropLast)) = H2 at hp2 hq2 b2
    generalize (n :: r).dropLast = ds at hq2 ld
    have hm : 0 < m := by omega
    have z0 : 0 ≤ z % m := Int.emod_nonneg _ (by omega)
    have z1 : z % m < m := Int.emod_lt_of_pos _ hm
    -- if whole >= many
    refine ⟨_, rfl, _, rfl, _, _, rfl, rfl, _, rfl, ite2 (fun d => ?_) (fun d => ?_)⟩
    · refine ⟨_, rfl, p, _, rfl, DGet.k (k := kFar) hp2, .inl ⟨rfl, _, SqL.of hq2⟩, _, rfl, _, rfl, _, _, rfl, rfl, ⟨hm, by omega⟩, q, _, _, rfl, rfl, hq2, (by rw [List.length_map]; exact size_lt (by omega)), ?_⟩
      refine ⟨_, rfl, .inl ⟨_, rfl, _, rfl, _, _, rfl, rfl, hm, ?_⟩⟩
      refine kk _ _ z0 z1 ⟨ds ++ [z / m], st, tn, ?_, ?_, by rw [List.length_append]; exact ld⟩ fun b o x y e => ?_
      · rw [upd_ne pq]
        exact hp2
      · rw [upd_same, List.map_append]
        rfl
      · rw [upd_ne y]
        exact b2 _ _ x y e
    · refine ⟨_, rfl, .inl ⟨_, rfl, _, rfl, _, _, rfl, rfl, hm, ?_⟩⟩
      exact kk _ _ z0 z1 ⟨ds, st, tn, hp2, hq2, by omega⟩ b2
  | nil =>
    rw [ints_self]
    refine iteF ?_
    -- the turn
    refine ⟨_, rfl, p, _, rfl, DGet.k (k := kTn) hp1, _, _, rfl, rfl, _, rfl, p, _, rfl, DPut.k (k := kTn) hp1 (by show 3 < sizeLine; decide), ?_⟩
    rw [jar_put]
    have hp2 : (upd (upd H l (.lst [])) p (.dK (jarK q st (tn + 1)))) p = some (.dK (jarK q st (tn + 1))) := upd_same
    have hq2 : (upd (upd H l (.lst [])) p (.dK (jarK q st (tn + 1)))) q = some (.lst (([] : List Int).map V.int)) := by
      rw [upd_ne pq.symm]
      exact hq1
    have b2 : But p q H (upd (upd H l (.lst [])) p (.dK (jarK q st (tn + 1)))) := fun b o x y e => by
      rw [upd_ne x]
      exact s1 _ _ e
    generalize (upd (upd H l (.lst [])) p (.dK (jarK q st (tn + 1)))) = H2 at hp2 hq2 b2
    -- one, two, the answer
    refine ⟨_, rfl, p, _, rfl, DGet.k (k := kSt) hp2, _, rfl, p, _, rfl, DGet.k (k := kTn) hp2, _, _, rfl, rfl, .inr ⟨by decide, by decide⟩, _, _, rfl, rfl, .inl ⟨_, rfl, _, _, rfl, rfl, (by show (0 : Int) < 4294967291; decide), ?_⟩⟩
    have o0 : 0 ≤ (st + (tn + 1) * 2654435761) % 4294967291 := Int.emod_nonneg _ (by decide)
    have o1 : (st + (tn + 1) * 2654435761) % 4294967291 < 4294967291 := Int.emod_lt_of_pos _ (by decide)
    generalize (st + (tn + 1) * 2654435761) % 4294967291 = one at o0 o1
    refine ⟨_, rfl, _, rfl, _, _, rfl, rfl, .inl ⟨by omega, by omega⟩, _, rfl, p, _, rfl, DGet.k (k := kTn) hp2, _, _, rfl, rfl, .inr ⟨by decide, by decide⟩, _, _, rfl, rfl, _, _, rfl, rfl, .inl ⟨_, rfl, _, _, rfl, rfl, (by show (0 : Int) < 4294967279; decide), ?_⟩⟩
    have t0 : 0 ≤ (one * one + (tn + 1) * 362437 + 5) % 4294967279 := Int.emod_nonneg _ (by decide)
    have t1 : (one * one + (tn + 1) * 362437 + 5) % 4294967279 < 4294967279 := Int.emod_lt_of_pos _ (by decide)
    generalize (one * one + (tn + 1) * 362437 + 5) % 4294967279 = two at t0 t1
    have hm : 0 < m := by omega
    refine ⟨_, rfl, _, rfl, _, _, rfl, rfl, .inl ⟨by omega, by omega⟩, _, rfl, _, _, rfl, rfl, .inl ⟨_, rfl, _, _, rfl, rfl, (by show (0 : Int) < 4294967231; decide), _, _, rfl, rfl, ⟨by decide, by decide⟩, _, rfl, _, _, rfl, rfl, hm, ?_⟩⟩
    exact kk _ _ (Int.emod_nonneg _ (by omega)) (Int.emod_lt_of_pos _ hm) ⟨[], st, tn + 1, hp2, hq2, Nat.zero_le _⟩ b2
end
end G40
/-! The law's looks at gates. -/
namespace G40
open PySem PySem.Spec PyProof.Rows L2
abbrev sWhole : Stmt := topS 11
abbrev sLim : Stmt := topS 12
abbrev sAre : Stmt := topS 13
abbrev sLed : Stmt := topS 14
abbrev sSorts : Stmt := topS 15
theorem scWhole : FnScope ["_law_value"] ["_law_value"] (defScope sWhole) := ⟨rfl, rfl, rfl, by decide +kernel, rfl, by decide +kernel, by decide +kernel⟩
theorem scLim : FnScope ["_law_many", "_law_d"] ["_law_many"] (defScope sLim) := ⟨rfl, rfl, rfl, by decide +kernel, rfl, by decide +kernel, by decide +kernel⟩
theorem scAre : FnScope ["_law_value", "_law_many", "_law_gate"] ["_law_value", "_law_many"] (defScope sAre) := ⟨rfl, rfl, rfl, by decide +kernel, rfl, by decide +kernel, by decide +kernel⟩
theorem scLed : FnScope ["_law_network", "_law_row", "_law_cells", "_law_i", "_law_j"] ["_law_network", "_law_row"] (defScope sLed) := ⟨rfl, rfl, rfl, by decide +kernel, rfl, by decide +kernel, by decide +kernel⟩
theorem scSorts : FnScope ["_law_network", "_law_many", "_law_whole", "_law_row", "_law_place"] ["_law_network", "_law_many"] (defScope sSorts) := ⟨rfl, rfl, rfl, by decide +kernel, rfl, by decide +kernel, by decide +kernel⟩
section
variable {P : Program} {w : World} {K : PySem.W.Frag} {mg : Str → Option Value} {base : Heap}

/-! ### _law_is_whole -/
def spWhole : Sp := fun vs H Q _ => ∃ i : Int, vs = [.int i] ∧ Q (.bl true) H
theorem ok_whole {f : Addr} {fd : FuncData} {k : Nat} (F : Fun K "_law_is_whole" "_law_is_whole" sWhole f fd) (mS : mg "isinstance" = none) (mI : mg "int" = none) (mB : mg "bool" = none) :
    FnOk P w K mg base CX0 (k + 1) f fd ["_law_value"] spWhole := by
  refine F.ok scWhole (fun vs H Q E h => ?_) (fun cdv A outer s H vs Q E hr h => ?_)
  · obtain ⟨i, rfl, _⟩ := h
    rfl
  obtain ⟨i, rfl, q⟩ := h
  refine ⟨_, pss_one (ps_ret (pe_and (pe_callB call_isi (by rfl) mS (by decide +kernel) (pa_cons (pv 0) (pa_cons (pe_bltn (v := .ty "int") (by rfl) mI (by decide +kernel) rfl) pa_nil)))
    (pe_one (pe_not (pe_callB call_isi (by rfl) mS (by decide +kernel) (pa_cons (pv 0) (pa_cons (pe_bltn (v := .ty "bool") (by rfl) mB (by decide +kernel) rfl) pa_nil))))))), ?_⟩
  refine ⟨_, rfl, _, _, _, _, true, rfl, .ty "int", .base (.int i), kit_ty (by decide +kernel), true, rfl, iteT ?_⟩
  exact ⟨_, rfl, _, _, _, _, false, rfl, .ty "bool", .base (.int i), kit_ty (by decide +kernel), false, rfl, q⟩

/-! ### _law_limit -/
def spLim : Sp := fun vs H Q _ => ∃ m : Nat, vs = [.int (m : Int)] ∧ 1 ≤ m ∧ m ≤ 64 ∧ Q (.int (limF m)) H
theorem shl_one (i : Nat) : (1 : Int) * 2 ^ ((i : Nat) : Int).toNat = ((2 ^ i : Nat) : Int) := by
  rw [Int.one_mul, Int.toNat_natCast, Int.natCast_pow]
  rfl
theorem ok_lim {f : Addr} {fd : FuncData} {k : Nat} (F : Fun K "_law_limit" "_law_limit" sLim f fd) : FnOk P w K mg base CX0 (k + 1) f fd ["_law_many"] spLim := by
  refine F.ok scLim (fun vs H Q E h => ?_) (fun cdv A outer s H vs Q E hr h => ?_)
  · obtain ⟨m, rfl, _⟩ := h
    rfl
  obtain ⟨m, rfl, h1, h2, q⟩ := h
  refine ⟨_, pss_cons (ps_set (i := 1) scLim.nd rfl (.inl rfl) pe_int)
    (pss_cons (ps_while PassesOwn.never (pt_cmpR op_lt (pe_op op_shl pe_int (pv 1)) (pv 0) (nomark _)) (pss_one (ps_set (i := 1) scLim.nd rfl (.inl rfl) (pe_op op_add (pv 1) pe_int))))
    (pss_one (ps_ret (pe_op op_sub (pe_op op_fdiv (pe_op op_mul (pe_op op_add (pe_op op_sub (pe_op op_mul (pv 1) (pv 1)) (pv 1)) pe_int) (pe_op op_shl pe_int (pv 1))) pe_int) pe_int)))), ?_⟩
  refine ⟨fun k σ H' => H' = H ∧ ∃ i : Nat, i ≤ 6 ∧ k + i = 7 ∧ (i = 0 ∨ 2 ^ (i - 1) < m) ∧ σ = [some (.int (m : Int)), some (.int (i : Int))], ⟨7, rfl, 0, by decide, rfl, .inl rfl, rfl⟩, ?_⟩
  rintro k σ H' ⟨rfl, i, hi, hk, hlow, rfl⟩
  refine ⟨_, rfl, _, _, rfl, rfl, ⟨Int.natCast_nonneg _, by omega, by decide⟩, _, rfl, _, _, rfl, rfl, _, rfl, ?_⟩
  rw [shl_one]
  refine ite2 (fun c => ?_) (fun c => ?_)
  · have c' : 2 ^ i < m := by
      have := of_decide_eq_true c
      omega
    have hi5 : i ≤ 5 := by
      rcases upto6 hi with rfl | rfl | rfl | rfl | rfl | rfl | rfl
      all_goals first | omega | (exfalso; simp at c'; omega)
    refine ⟨fun σ' H2 => H2 = H' ∧ σ' = [some (.int (m : Int)), some (.int ((i + 1 : Nat) : Int))], ?_, _, rfl, _, _, rfl, rfl, rfl, rfl⟩
    rintro σ' H2 ⟨rfl, rfl⟩
    exact ⟨k - 1, by omega, rfl, i + 1, by omega, by omega, .inr c', rfl⟩
  · have c' : m ≤ 2 ^ i := by
      have := of_decide_eq_false (Bool.eq_false_iff.mpr c)
      omega
    have e : i = dbl m := dbl_is hi h2 c' hlow
    subst e
    have pz : (0 : Int) ≤ ((2 ^ dbl m : Nat) : Int) ∧ ((2 ^ dbl m : Nat) : Int) ≤ 64 := ⟨Int.natCast_nonneg _, Int.ofNat_le.mpr (pow_dbl m)⟩
    refine ⟨_, rfl, _, rfl, _, _, rfl, rfl, .inl ⟨by omega, by omega⟩, _, rfl, _, _, rfl, rfl, _, _, rfl, rfl, _, rfl, _, _, rfl, rfl, ⟨Int.natCast_nonneg _, by omega, by decide⟩, ?_⟩
    dsimp only
    rw [shl_one]
    exact ⟨_, _, rfl, rfl, .inr ⟨by omega, by omega⟩, _, _, rfl, rfl, ⟨by decide, by decide⟩, _, _, rfl, rfl, q⟩

/-! ### _law_are_gates -/
def spAre : Sp := fun vs H Q _ => ∃ (p : Addr) (xs : List V) (gs : List (Nat × Nat)) (m : Nat), vs = [.ref p, .int (m : Int)] ∧ H p = some (.tup xs) ∧ Gs H xs gs ∧ (∀ g ∈ gs, g.1 < g.2 ∧ g.2 < m) ∧ Q (.bl true) H
theorem ok_are {f g : Addr} {fd gd : FuncData} {k : Nat} (F : Fun K "_law_are_gates" "_law_are_gates" sAre f fd) (G : FnOk P w K mg base CX0 k g gd ["_law_value"] spWhole) (kG : PySem.W.keepIn K (.ref g) = true) (bG : Binds K gd ["_law_value"] [])
    (mG : mg "_law_is_whole" = some (.ref g)) (mS : mg "isinstance" = none) (mT : mg "tuple" = none) (mL : mg "len" = none) : FnOk P w K mg base CX0 (k + 1) f fd ["_law_value", "_law_many"] spAre := by
  refine F.ok scAre (fun vs H Q E h => ?_) (fun cdv A outer s H vs Q E hr h => ?_)
  · obtain ⟨p, xs, gs, m, rfl, _⟩ := h
    rfl
  obtain ⟨p, xs, gs, m, rfl, hp, hg, hok, q⟩ := h
  refine ⟨_, pss_cons (ps_if (pt_not (pt_val (pe_callB call_isi (by rfl) mS (by decide +kernel) (pa_cons (pv 0) (pa_cons (pe_bltn (v := .ty "tuple") (by rfl) mT (by decide +kernel) rfl) pa_nil))))) (pss_one (ps_ret pe_bl)) pss_nil)
    (pss_cons (ps_for PassesOwn.never rfl (pi_tup (pv 0)) (pg_name (i := 2) scAre.nd rfl (.inl rfl))
      (pss_cons (ps_if (PW.pt (pw_or (pt_not (pt_val (pe_callB call_isi (by rfl) mS (by decide +kernel) (pa_cons (pv 2) (pa_cons (pe_bltn (v := .ty "tuple") (by rfl) mT (by decide +kernel) rfl) pa_nil)))))
          (pw_or (pt_cmpR op_ne (pe_callB call_len_seq (by rfl) mL PySem.boot_len (pa_cons (pv 2) pa_nil)) pe_int (nomark _))
          (pw_or (pt_not (pt_val (pe_call G hr (by rfl) mG kG bG .nil pass0 (pa_cons (pe_ix ix_tup (pv 2) pe_int (fun _ _ => rfl)) pa_nil))))
          (pw_or1 (pt_not (pt_val (pe_call G hr (by rfl) mG kG bG .nil pass0 (pa_cons (pe_ix ix_tup (pv 2) pe_int (fun _ _ => rfl)) pa_nil)))))))))
        (pss_one (ps_ret pe_bl)) pss_nil)
      (pss_one (ps_if (pt_not (pt_chain3 op_le op_lt op_lt pe_int (pe_ix ix_tup (pv 2) pe_int (fun _ _ => rfl)) (pe_ix ix_tup (pv 2) pe_int (fun _ _ => rfl)) (pv 1))) (pss_one (ps_ret pe_bl)) pss_nil))))
    (pss_one (ps_ret pe_bl))), ?_⟩
  refine ⟨_, rfl, _, _, _, _, true, rfl, .ty "tuple", .base (.tup hp), kit_ty (by decide +kernel), true, rfl, iteF ?_⟩
  refine ⟨_, rfl, p, rfl, ⟨_, SqT.of hp⟩, for_tup (K := K) (a := p) (xs := xs) (fun i σ H' => H' = H ∧ ∃ y : Option V, σ = [some (.ref p), some (.int (m : Int)), y]) ⟨rfl, none, rfl⟩ (fun i σ H' _ ⟨e, _⟩ => by rw [e]; exact SqT.of hp)
    (fun i x σ H' hx ⟨e, y, e2⟩ => ?_) (fun σ H' ⟨e, y, e2⟩ => ?_)⟩
  · subst e
    subst e2
    obtain ⟨t, g, rfl, hgi, ht⟩ := hg.get hx
    obtain ⟨o1, o2⟩ := hok g (List.mem_of_getElem? hgi)
    refine ⟨_, rfl, _, _, _, _, true, rfl, .ty "tuple", .base (.tup ht), kit_ty (by decide +kernel), true, rfl, iteF ?_⟩
    refine ⟨_, rfl, t, _, rfl, .inr (SqT.of ht), rfl, _, rfl, ?_⟩
    refine iteF ?_
    refine ⟨_, rfl, t, _, 0, _, rfl, rfl, SqT.of ht, atI_nat (j := 0) rfl, _, rfl, true, rfl, iteF ?_⟩
    refine ⟨_, rfl, t, _, 1, _, rfl, rfl, SqT.of ht, atI_nat (j := 1) rfl, _, rfl, true, rfl, iteF ?_⟩
    -- 0 <= gate[0] < gate[1] < many
    refine ⟨_, rfl, t, _, 0, _, rfl, rfl, SqT.of ht, atI_nat (j := 0) rfl, _, _, rfl, rfl, true, ?_, iteT ⟨_, rfl, t, _, 1, _, rfl, rfl, SqT.of ht, atI_nat (j := 1) rfl, _, _, rfl, rfl, true, ?_, iteT ⟨_, rfl, _, _, rfl, rfl, true, ?_, iteF ⟨rfl, _, rfl⟩⟩⟩⟩
    · exact congrArg V.bl (decide_eq_true (Int.natCast_nonneg _))
    · exact congrArg V.bl (decide_eq_true (by omega))
    · exact congrArg V.bl (decide_eq_true (by omega))
  · subst e
    subst e2
    exact q

/-! ### _law_led -/
theorem cell_at {ns : List Int} {j : Nat} (h : j < ns.length) : atI (ns.map V.int) ((j : Nat) : Int) = some (.int (ns.getD j 0)) := atI_nat (by
  rw [List.getElem?_map, List.getD_eq_getElem?_getD, List.getElem?_eq_getElem h]
  rfl)
theorem ix_in {n j : Nat} (h : j < n) : ixN n ((j : Nat) : Int) = some j := by
  unfold ixN
  rw [if_pos (Int.natCast_nonneg _), if_pos (by omega), Int.toNat_natCast]
theorem set_ints (ns : List Int) (j : Nat) (v : Int) : (ns.map V.int).set j (.int v) = (ns.set j v).map V.int := List.map_set.symm
def spLed (K : PySem.W.Frag) : Sp := fun vs H Q _ => ∃ (p r : Addr) (xs : List V) (gs : List (Nat × Nat)) (ns : List Int), vs = [.ref p, .ref r] ∧ H p = some (.tup xs) ∧ Gs H xs gs ∧ SqL K H r (ns.map V.int) ∧ ns.length ≤ 1000 ∧
  (∀ g ∈ gs, g.1 < ns.length ∧ g.2 < ns.length) ∧ ∀ H' c, Same H H' → H c = none → H' c = some (.lst ((ledL gs ns).map V.int)) → Q (.ref c) H'
theorem ok_led {f : Addr} {fd : FuncData} {k : Nat} (F : Fun K "_law_led" "_law_led" sLed f fd) (mL : mg "list" = none) : FnOk P w K mg base CX0 (k + 1) f fd ["_law_network", "_law_row"] (spLed K) := by
  refine F.ok scLed (fun vs H Q E h => ?_) (fun cdv A outer s H vs Q E hr h => ?_)
  · obtain ⟨p, r, xs, gs, ns, rfl, _⟩ := h
    rfl
  obtain ⟨p, r, xs, gs, ns, rfl, hp, hg, hS, h1000, hok, q⟩ := h
  refine ⟨_, pss_cons (ps_set (i := 2) scLed.nd rfl (.inl rfl) (pe_callTy call_list_of (by rfl) mL (by decide +kernel) (pa_cons (pv 1) pa_nil)))
    (pss_cons (ps_for PassesOwn.never rfl (pi_tup (pv 0)) (pg_tup rfl (pgs_cons (pg_name (i := 3) scLed.nd rfl (.inl rfl)) (pgs_cons (pg_name (i := 4) scLed.nd rfl (.inl rfl)) pgs_nil)))
      (pss_one (ps_if (pt_cmpR op_gt (pe_ix ix_list (pv 2) (pv 3) (fun _ _ => rfl)) (pe_ix ix_list (pv 2) (pv 4) (fun _ _ => rfl)) (nomark _))
        (pss_one (ps_asg (pe_tup (pa_cons (pe_ix ix_list (pv 2) (pv 4) (fun _ _ => rfl)) (pa_cons (pe_ix ix_list (pv 2) (pv 3) (fun _ _ => rfl)) pa_nil)))
          (pg_tup rfl (pgs_cons (pg_sub (pv 2) (pv 3) set_list) (pgs_cons (pg_sub (pv 2) (pv 4) set_list) pgs_nil))))) pss_nil)))
    (pss_one (ps_ret (pv 2)))), ?_⟩
  -- cells = list(row)
  refine ⟨_, rfl, r, _, rfl, .inl hS, fun c nc => ?_⟩
  have s1 : Same H (upd H c (.lst (ns.map V.int))) := new_same nc
  refine ⟨_, rfl, p, rfl, ⟨_, SqT.of (s1 _ _ hp)⟩, for_tup (K := K) (a := p) (xs := xs)
    (fun i σ H' => ∃ y3 y4 : Option V, σ = [some (.ref p), some (.ref r), some (.ref c), y3, y4] ∧ Same H H' ∧ H' c = some (.lst ((ledL (gs.take i) ns).map V.int))) ⟨none, none, rfl, s1, upd_same⟩
    (fun i σ H' _ ⟨_, _, _, a1, _⟩ => SqT.of (a1 _ _ hp)) (fun i x σ H' hx ⟨y3, y4, e, a1, a2⟩ => ?_) (fun σ H' ⟨y3, y4, e, a1, a2⟩ => ?_)⟩
  · subst e
    obtain ⟨t, g, rfl, hgi, ht⟩ := hg.get hx
    obtain ⟨o1, o2⟩ := hok g (List.mem_of_getElem? hgi)
    have el : ledL (gs.take (i + 1)) ns = stepG (ledL (gs.take i) ns) g := by
      rw [List.take_add_one, hgi]
      unfold ledL
      rw [List.foldl_append]
      rfl
    have lc := led_len (gs.take i) ns
    rw [el]
    generalize ledL (gs.take i) ns = cur at a2 lc
    rw [← lc] at o1 o2
    refine ⟨t, _, rfl, SqT.of (a1 _ _ ht), rfl, _, _, rfl, _, _, rfl, rfl, ?_⟩
    refine ⟨_, rfl, _, rfl, c, _, _, _, rfl, rfl, SqL.of a2, cell_at o1, _, rfl, _, rfl, c, _, _, _, rfl, rfl, SqL.of a2, cell_at o2, _, _, rfl, rfl, _, rfl, ite2 (fun d => ?_) (fun d => ?_)⟩
    · -- both change places
      have d' : cur.getD g.2 0 < cur.getD g.1 0 := of_decide_eq_true d
      refine ⟨_, rfl, _, rfl, c, _, _, _, rfl, rfl, SqL.of a2, cell_at o2, _, rfl, _, rfl, c, _, _, _, rfl, rfl, SqL.of a2, cell_at o1, (by show 2 ≤ sizeLine; decide), fun u nu => ?_⟩
      have cu : c ≠ u := ne_of_none a2 nu
      refine ⟨u, _, rfl, SqT.of upd_same, rfl, _, _, rfl, _, rfl, _, rfl, c, _, _, g.1, rfl, rfl, (by rw [upd_ne cu]; exact a2), ix_in (by rw [List.length_map]; exact o1), ?_⟩
      rw [set_ints]
      refine ⟨_, _, rfl, _, rfl, _, rfl, c, _, _, g.2, rfl, rfl, upd_same, ix_in (by rw [List.length_map, List.length_set]; exact o2), rfl, ?_⟩
      rw [set_ints, upd_upd]
      refine ⟨_, _, rfl, fun b o e => ?_, ?_⟩
      · rw [upd_ne (ne_of_none e nc), upd_ne (ne_of_none (a1 _ _ e) nu)]
        exact a1 _ _ e
      · rw [upd_same]
        unfold stepG
        rw [if_pos d']
    · have d' : ¬ cur.getD g.2 0 < cur.getD g.1 0 := of_decide_eq_false (Bool.eq_false_iff.mpr d)
      refine ⟨_, _, rfl, a1, ?_⟩
      unfold stepG
      rw [if_neg d']
      exact a2
  · subst e
    have el : gs.take xs.length = gs := by
      rw [hg.len]
      exact List.take_length
    rw [el] at a2
    exact ⟨_, rfl, q H' c a1 nc a2⟩

/-! ### _law_sorts -/
def spSorts : Sp := fun vs H Q _ => ∃ (p : Addr) (xs : List V) (gs : List (Nat × Nat)) (m : Nat), vs = [.ref p, .int (m : Int)] ∧ H p = some (.tup xs) ∧ Gs H xs gs ∧ 1 ≤ m ∧ m ≤ 8 ∧ (∀ g ∈ gs, g.1 < g.2 ∧ g.2 < m) ∧
  (∀ v : Nat, v < 2 ^ m → ascB (ledL gs (bitsL m v)) = true) ∧ ∀ H', Same H H' → Q (.bl true) H'
theorem bit_of (v k : Nat) : Builtin.bitAnd (((0 : Int) + (v : Int)) / 2 ^ ((0 : Int) + (k : Int)).toNat) 1 = ((v / 2 ^ k % 2 : Nat) : Int) := by
  rw [bitAnd_m1, Int.zero_add, Int.zero_add, Int.toNat_natCast, Int.natCast_emod, Int.natCast_ediv, Int.natCast_pow]
  rfl
theorem bits_next (m k v : Nat) : bitsL (k + 1) v = bitsL k v ++ [((v / 2 ^ k % 2 : Nat) : Int)] := by
  unfold bitsL
  rw [List.range_succ, List.map_append]
  rfl
theorem ok_sorts {f g : Addr} {fd gd : FuncData} {k : Nat} (F : Fun K "_law_sorts" "_law_sorts" sSorts f fd) (G : FnOk P w K mg base CX0 k g gd ["_law_network", "_law_row"] (spLed K)) (kG : PySem.W.keepIn K (.ref g) = true)
    (bG : Binds K gd ["_law_network", "_law_row"] []) (mG : mg "_law_led" = some (.ref g)) (mR : mg "range" = none) : FnOk P w K mg base CX0 (k + 1) f fd ["_law_network", "_law_many"] spSorts := by
  refine F.ok scSorts (fun vs H Q E h => ?_) (fun cdv A outer s H vs Q E hr h => ?_)
  · obtain ⟨p, xs, gs, m, rfl, _⟩ := h
    rfl
  obtain ⟨p, xs, gs, m, rfl, hp, hg, h1, h8, hok, hasc, q⟩ := h
  refine ⟨_, pss_cons (ps_for PassesOwn.never rfl (pi_range1 rfl mR (pa_cons (pe_op op_shl pe_int (pv 1)) pa_nil)) (pg_name (i := 2) scSorts.nd rfl (.inr rfl))
      (pss_cons (ps_set (i := 3) scSorts.nd rfl (.inr rfl) (pe_call G hr (by rfl) mG kG bG .nil pass0 (pa_cons (pv 0) (pa_cons
          (pe_lc (own := [("_law_place", 4)]) (g := gName 4) (tt := tYes) (by rfl) scSorts.nd (pi_range1 rfl mR (pa_cons (pv 1) pa_nil))
            (blkOk_by (N := ["_law_network", "_law_many", "_law_whole", "_law_row", "_law_place"]) (sc := defScope sSorts) (by decide +kernel))
            (fun _ _ _ _ _ => pg_name (i := 4) scSorts.nd rfl (Or.inl rfl)) (fun _ _ _ _ _ => pts_nil) (fun _ _ _ _ _ => pe_op op_and (pe_op op_shr (pv 2) (pv 4)) pe_int)) pa_nil))))
      (pss_one (ps_if (pt_cmpR (op_neD hr.units) (pe_lc (own := [("_law_place", 4)]) (g := gName 4) (by rfl) scSorts.nd (pi_range1 rfl mR (pa_cons (pe_op op_sub (pv 1) pe_int) pa_nil))
            (blkOk_by (N := ["_law_network", "_law_many", "_law_whole", "_law_row", "_law_place"]) (sc := defScope sSorts) (by decide +kernel))
            (fun _ _ _ _ _ => pg_name (i := 4) scSorts.nd rfl (Or.inl rfl))
            (fun _ _ _ _ _ => pts_one (pt_cmpR op_gt (pe_ix (r := rIxL K) ix_list (pv 3) (pv 4) (fun _ _ => rfl)) (pe_ix (r := rIxL K) ix_list (pv 3) (pe_op op_add (pv 4) pe_int) (fun _ _ => rfl)) (nomark _)))
            (fun _ _ _ _ _ => pv 4)) (pe_lst pa_nil) (nomark _))
        (pss_one (ps_ret pe_bl)) pss_nil))))
    (pss_one (ps_ret pe_bl)), ?_⟩
  have p8 : 2 ^ m ≤ 256 := Nat.le_trans (Nat.pow_le_pow_right (by decide) h8) (by decide)
  -- range(1 << many)
  refine ⟨_, rfl, _, _, rfl, rfl, ⟨Int.natCast_nonneg _, by omega, by decide⟩, _, rfl, ?_⟩
  rw [shl_one, Int.toNat_natCast]
  have pz : (0 : Int) ≤ ((2 ^ m : Nat) : Int) ∧ ((2 ^ m : Nat) : Int) ≤ 256 := ⟨Int.natCast_nonneg _, Int.ofNat_le.mpr p8⟩
  refine ⟨by omega, by omega, ?_⟩
  refine for_range (lo := 0) (n := 2 ^ m) (fun i σ H' => Same H H' ∧ ∃ y2 y3 y4 : Option V, σ = [some (.ref p), some (.int (m : Int)), y2, y3, y4]) ⟨Same.refl H, none, none, none, rfl⟩ (fun v σ H1 hv ⟨s1, y2, y3, y4, e⟩ => ?_) (fun σ H1 ⟨s1, y2, y3, y4, e⟩ => ?_)
  · subst e
    -- the word
    refine ⟨_, rfl, _, rfl, (m : Int), rfl, by omega, by omega, ?_⟩
    rw [Int.toNat_natCast]
    intro D nD
    have fD : H D = none := s1.free nD
    refine lc_range (lo := 0) (n := m) (fun i H' => Same H1 H' ∧ H' D = some (.lst ((bitsL i v).map V.int))) ⟨new_same nD, upd_same⟩ (fun i H2 hi ⟨a1, a2⟩ => ?_) (fun H2 ⟨a1, a2⟩ => ?_)
    · refine ⟨rfl, _, rfl, _, rfl, _, _, rfl, rfl, (by omega), _, _, rfl, rfl, (bitsL i v).map V.int, a2, by rw [List.length_map, bits_len]; exact size_lt (by omega), fun b u e => ?_, ?_⟩
      · rw [upd_ne (ne_of_none e nD)]
        exact a1 _ _ e
      · rw [upd_same, bits_next m, List.map_append]
        dsimp only
        rw [bit_of]
        rfl
    -- led(..)
    have s2 : Same H H2 := s1.trans a1
    have l2 : (bitsL m v).length = m := bits_len m v
    refine ⟨p, D, xs, gs, bitsL m v, rfl, s2 _ _ hp, hg.keep s2, SqL.of a2, by omega, fun g hgm => ?_, fun H3 c s3 nc e3 => ?_⟩
    · obtain ⟨o1, o2⟩ := hok g hgm
      omega
    have hasc' := hasc v hv
    have l3 : (ledL gs (bitsL m v)).length = m := (led_len gs (bitsL m v)).trans l2
    generalize ledL gs (bitsL m v) = row at e3 hasc' l3
    -- no place falls
    refine ⟨_, rfl, _, _, rfl, rfl, _, rfl, by omega, by omega, fun C nC => ?_⟩
    have n3 : H C = none := (s2.trans s3).free nC
    have e1 : ((m : Int) - 1).toNat = m - 1 := by omega
    rw [e1]
    refine lc_range (lo := 0) (n := m - 1) (fun i H' => Same H3 H' ∧ H' C = some (.lst [])) ⟨new_same nC, upd_same⟩ (fun i H4 hi ⟨b1, b2⟩ => ?_) (fun H4 ⟨b1, b2⟩ => ?_)
    · have g1 : i < row.length := by omega
      have g2 : i + 1 < row.length := by omega
      have q1 : (0 : Int) + (i : Int) = ((i : Nat) : Int) := by omega
      have q2 : (0 : Int) + (i : Int) + 1 = ((i + 1 : Nat) : Int) := by omega
      refine ⟨rfl, _, rfl, _, rfl, c, _, _, .int (row.getD i 0), rfl, rfl, SqL.of (b1 _ _ e3), (by rw [q1]; exact cell_at g1), _, rfl, _, rfl, _, _, rfl, rfl, c, _, _, .int (row.getD (i + 1) 0), rfl, rfl, SqL.of (b1 _ _ e3), (by rw [q2]; exact cell_at g2), _, _, rfl, rfl, _, rfl, ?_⟩
      have le := asc_at hasc' g2
      rw [decide_eq_false (by omega)]
      exact iteF ⟨b1, b2⟩
    -- [..] != []
    refine ⟨(by show 0 ≤ sizeLine; decide), fun l nl => ?_⟩
    have s5 : Same H4 (upd H4 l (.lst [])) := new_same nl
    refine ⟨intsD [], intsD [], .lst (SqL.of (s5 _ _ b2)) .nil, .lst (SqL.of upd_same) .nil, ints_shaped [], ints_shaped [], _, rfl, ?_⟩
    rw [ints_self]
    refine iteF ?_
    exact ⟨((s2.trans s3).trans b1).trans s5, _, _, _, rfl⟩
  · exact q H1 s1
end
end G40
/-! What is shown as a text. -/
namespace G40
open PySem PySem.Spec PyProof.Rows L2
def gatesD (m : Nat) : PyData := .tuple ((gatesL m).map gateD)
theorem gates_fit : ∀ m ∈ asked, (gatesD m).showable = true ∧ (gatesD m).hasDict = false ∧ (gatesD m).depth ≤ 60 ∧ (gatesD m).shown.length ≤ 1000 := by decide +kernel
/-- what is told at the end, of a number of places -/
def toldL (m : Nat) : List Int := [limF m, limF m, limF 64, limF 33, limF 1]
def askL (m : Nat) : List Int := [limF m, limF m, 543, 543, 0]
theorem told_ask (m : Nat) : toldL m = askL m := by
  unfold toldL askL
  rw [lim64, lim33, lim1]
def fiveD (n : Int) : PyData := intsD [n, n, 543, 543, 0]
theorem five_fit : ∀ n ∈ ([0, 1, 5, 19, 63, 191, 543] : List Int), (fiveD n).showable = true ∧ (fiveD n).hasDict = false ∧ (fiveD n).depth ≤ 60 ∧ (fiveD n).shown.length ≤ 1000 := by decide +kernel
theorem lim_of (m : Nat) : limF m ∈ ([0, 1, 5, 19, 63, 191, 543] : List Int) := by
  unfold limF
  rcases upto6 (dbl_le m) with e | e | e | e | e | e | e
  all_goals
    rw [e]
    decide +kernel
theorem fit_gates {m : Nat} (h : m ∈ asked) : Fit (gatesD m) :=
  let ⟨a, b, c, d⟩ := gates_fit m h
  ⟨a, b, c, size_of (Nat.le_trans d (by decide))⟩
theorem fit_told (m : Nat) : Fit (intsD (askL m)) :=
  let ⟨a, b, c, d⟩ := five_fit (limF m) (lim_of m)
  ⟨a, b, c, size_of (Nat.le_trans d (by decide))⟩
end G40
/-! The law's own def. -/
namespace G40
open PySem PySem.Spec PyProof.Rows L2
abbrev sLaw : Stmt := topS 16
abbrev nLaw : List Str := ["_law_script", "_law_jar_here", "_law_many", "_law_places", "_law_network", "_law_turn", "_law_place", "_law_row", "_law_told"]
theorem scLaw : FnScope nLaw ["_law_script"] (defScope sLaw) := ⟨rfl, rfl, rfl, by decide +kernel, rfl, by decide +kernel, by decide +kernel⟩
theorem Jar.keep {H H' : Hp} {p q : Addr} (e : Same H H') (h : Jar H p q) : Jar H' p q :=
  let ⟨fs, st, tn, a, b, c⟩ := h
  ⟨fs, st, tn, e _ _ a, e _ _ b, c⟩
theorem Jar.at1 {H : Hp} {p q : Addr} (h : Jar H p q) : ∃ o, H p = some o := let ⟨_, _, _, a, _, _⟩ := h; ⟨_, a⟩
theorem Jar.at2 {H : Hp} {p q : Addr} (h : Jar H p q) : ∃ o, H q = some o := let ⟨_, _, _, _, b, _⟩ := h; ⟨_, b⟩

/-- a def of the text as its callers know it -/
structure Cal (P : Program) (w : World) (K : PySem.W.Frag) (mg : Str → Option Value) (base : Heap) (k : Nat) (x : Str) (ps : List Str) (sp : Sp) (f : Addr) (fd : FuncData) : Prop where
  ok : FnOk P w K mg base CX0 k f fd ps sp
  kp : PySem.W.keepIn K (.ref f) = true
  b : Binds K fd ps []
  m : mg x = some (.ref f)

/-! ### small steps of it -/
theorem pick86 {Q : VK} {σ : L2.St} {H : Hp} {c : Prop} [Decidable c] (h : ∀ z : Int, z = 8 ∨ z = 6 → Q (.int z) H) : if c then tC (.int 8) σ H Q else tC (.int 6) σ H Q := by
  split
  · exact h 8 (.inl rfl)
  · exact h 6 (.inr rfl)
def tMenu : TE := tIf (tTest (tOp rEq (tVar 2) (tC (.int 6)))) (tLst (tCons (tC (.int 1)) (tCons (tC (.int 2)) (tCons (tC (.int 3)) (tCons (tC (.int 4)) (tCons (tC (.int 5)) (tCons (tVar 2) tNil)))))))
  (tLst (tCons (tC (.int 7)) (tCons (tVar 2) tNil)))
theorem menu_ok {Q : VK} {σ : L2.St} {H : Hp} {z : Int} (hz : z = 8 ∨ z = 6) (hσ : σ[2]? = some (some (V.int z)))
    (h : ∀ (L : Addr) (ms : List Nat), H L = none → (∀ m ∈ ms, m ∈ asked) → Q (.ref L) (upd H L (.lst (ms.map fun m : Nat => V.int (m : Int))))) : tMenu σ H Q := by
  rcases hz with rfl | rfl
  · refine ⟨_, hσ, rfl, false, congrArg V.bl (decide_eq_false (show ¬ V.int 8 = V.int 6 by decide)), iteF ⟨_, hσ, (by show 2 ≤ sizeLine; decide), fun L nL => ?_⟩⟩
    exact h L [7, 8] nL (by decide)
  · refine ⟨_, hσ, rfl, true, congrArg V.bl (decide_eq_true rfl), iteT ⟨_, hσ, (by show 6 ≤ sizeLine; decide), fun L nL => ?_⟩⟩
    exact h L [1, 2, 3, 4, 5, 6] nL (by decide)
theorem pickG {Q : VK} {σ : L2.St} {H : Hp} {m : Int} {c : Prop} [Decidable c] (hσ : σ[3]? = some (some (V.int m))) (h : spGates [.int m] H Q E0) :
    if c then tCallKw 1 spGates E0 (tCons (tVar 3) tNil) σ H Q else tCall spGates [] E0 (tCons (tVar 3) tNil) σ H Q := by
  split
  · exact ⟨_, hσ, rfl, h⟩
  · exact ⟨_, hσ, h⟩
/-- repr(gates(places)) != repr(network): never -/
def tShown2 (K : PySem.W.Frag) : TT := tTest (tOp rNe (tCB (rShown K) (tCons (tCall spGates [] E0 (tCons (tVar 3) tNil)) tNil)) (tCB (rShown K) (tCons (tVar 4) tNil)))
theorem shown2_ok {K : PySem.W.Frag} {Q : Bool → Hp → Prop} {σ : L2.St} {H : Hp} {m : Nat} {n : Addr} {xs : List V} (hm : m ∈ asked) (h1 : 1 ≤ m) (h2 : m ≤ 64) (s3 : σ[3]? = some (some (V.int (m : Int)))) (s4 : σ[4]? = some (some (V.ref n)))
    (e : H n = some (.tup xs)) (g : Gs H xs (gatesL m)) (h : ∀ H', Same H H' → Q false H') : tShown2 K σ H Q := by
  refine ⟨_, s3, m, rfl, h1, h2, fun H' p ys sm np ep gp => ⟨p, gatesD m, rfl, .tup (SqT.of ep) gp.data, fit_gates hm, ?_⟩⟩
  refine ⟨_, s4, n, gatesD m, rfl, .tup (SqT.of (sm _ _ e)) (g.keep sm).data, fit_gates hm, rfl, false, ?_, h H' sm⟩
  exact congrArg (fun b => V.bl (!b)) (decide_eq_true rfl)
theorem asked_in {m : Nat} (h : m ∈ asked) : 1 ≤ m ∧ m ≤ 8 := by
  have a : ∀ m ∈ asked, 1 ≤ m ∧ m ≤ 8 := by decide
  exact a m h

section
variable {P : Program} {w : World} {K : PySem.W.Frag} {mg : Str → Option Value}
variable {fJ fD fG fA fL fS fE fM f : Addr} {dJ dD dG dA dL dS dE dM fd : FuncData}
theorem law_body (CJ : ∀ base, Cal P w K mg base 20 "_law_jar" ["_law_script"] (spJar K) fJ dJ) (CD : ∀ base, Cal P w K mg base 20 "_law_draw" ["_law_jar_here", "_law_many"] spDraw fD dD)
    (CG : ∀ base, Cal P w K mg base 20 "gates" ["many"] spGates fG dG) (kG : KBn K dG ["many"] 0 ["many"] (fun _ ws => ws) (fun _ zs => zs)) (CA : ∀ base, Cal P w K mg base 20 "_law_are_gates" ["_law_value", "_law_many"] spAre fA dA)
    (CL : ∀ base, Cal P w K mg base 20 "_law_limit" ["_law_many"] spLim fL dL) (CS : ∀ base, Cal P w K mg base 20 "_law_sorts" ["_law_network", "_law_many"] spSorts fS dS) (CE : ∀ base, Cal P w K mg base 20 "_law_led" ["_law_network", "_law_row"] (spLed K) fE dE)
    (CM : ∀ base, Cal P w K mg base 20 "gate_limit" ["many"] spLimit fM dM) (kM : KBn K dM ["many"] 0 ["many"] (fun _ ws => ws) (fun _ zs => zs))
    (mLen : mg "len" = none) (mRepr : mg "repr" = none) (mRange : mg "range" = none) (mSorted : mg "sorted" = none) : LawBody P w K mg nLaw "_law_script" "law" sLaw f 63 20 := by
  intro base cdv s H a ns hS hlen hr
  have CJ := CJ base
  have CD := CD base
  have CG := CG base
  have CA := CA base
  have CL := CL base
  have CS := CS base
  have CE := CE base
  have CM := CM base
  refine ⟨_, pss_cons (ps_set (i := 1) scLaw.nd rfl (.inr rfl) (pe_call CJ.ok hr (by rfl) CJ.m CJ.kp CJ.b .nil pass0 (pa_cons (pv 0) pa_nil)))
    (pss_cons (ps_set (i := 2) scLaw.nd rfl (.inl rfl) (pe_ifExp (pt_cmpR op_eq (pe_call CD.ok hr (by rfl) CD.m CD.kp CD.b .nil pass0 (pa_cons (pv 1) (pa_cons pe_int pa_nil))) pe_int (nomark _)) pe_int pe_int))
    (pss_cons (ps_for PassesOwn.never rfl (pi_list (pe_ifExp (pt_cmpR op_eq (pv 2) pe_int (nomark _)) (pe_lst (pa_cons pe_int (pa_cons pe_int (pa_cons pe_int (pa_cons pe_int (pa_cons pe_int (pa_cons (pv 2) pa_nil)))))))
        (pe_lst (pa_cons pe_int (pa_cons (pv 2) pa_nil))))) (pg_name (i := 3) scLaw.nd rfl (.inl rfl))
      (pss_cons (ps_set (i := 4) scLaw.nd rfl (.inl rfl) (pe_ifExp (pt_cmpR op_eq (pv 3) pe_int (nomark _)) (pe_callKw CG.ok hr (by rfl) CG.m CG.kp kG pass0 (pk_cons (pv 3) pk_nil))
          (pe_call CG.ok hr (by rfl) CG.m CG.kp CG.b .nil pass0 (pa_cons (pv 3) pa_nil))))
      (pss_cons (ps_if (PW.pt (pw_or (pt_not (pt_val (pe_call CA.ok hr (by rfl) CA.m CA.kp CA.b .nil pass0 (pa_cons (pv 4) (pa_cons (pv 3) pa_nil)))))
          (pw_or1 (pt_cmpR op_gt (pe_callB call_len_seq (by rfl) mLen PySem.boot_len (pa_cons (pv 4) pa_nil)) (pe_call CL.ok hr (by rfl) CL.m CL.kp CL.b .nil pass0 (pa_cons (pv 3) pa_nil)) (nomark _)))))
        (pss_one (ps_ret pe_bl)) pss_nil)
      (pss_one (ps_if (PW.pt (pw_or (PW.pt (pw_and (pt_cmpR op_ne (pv 3) pe_int (nomark _)) (pw_and1 (pt_not (pt_val (pe_call CS.ok hr (by rfl) CS.m CS.kp CS.b .nil pass0 (pa_cons (pv 4) (pa_cons (pv 3) pa_nil))))))))
          (pw_or1 (pt_cmpR op_ne (pe_callB (call_shown rfl hr.units) (by rfl) mRepr (by decide +kernel) (pa_cons (pe_call CG.ok hr (by rfl) CG.m CG.kp CG.b .nil pass0 (pa_cons (pv 3) pa_nil)) pa_nil))
            (pe_callB (call_shown rfl hr.units) (by rfl) mRepr (by decide +kernel) (pa_cons (pv 4) pa_nil)) (nomark _)))))
        (pss_one (ps_ret pe_bl)) pss_nil)))))
    (pss_cons (ps_for PassesOwn.never rfl (pi_range1 rfl mRange (pa_cons pe_int pa_nil)) (pg_name (i := 5) scLaw.nd rfl (.inl rfl))
      (pss_cons (ps_setLc (i := 7) (own := [("_law_place", 6)]) (g := gName 6) (tt := tYes) (by rfl) scLaw.nd rfl rfl (sw_true rfl rfl rfl (by decide +kernel)) (pi_range1 rfl mRange (pa_cons pe_int pa_nil))
          (blkOk_by (N := nLaw) (sc := defScope sLaw) (by decide +kernel)) (fun _ _ _ _ _ => pg_name (i := 6) scLaw.nd rfl (Or.inl rfl)) (fun _ _ _ _ _ => pts_nil)
          (fun _ _ _ _ _ => pe_op op_sub (pe_call CD.ok hr (by rfl) CD.m CD.kp CD.b .nil pass0 (pa_cons (pv 1) (pa_cons pe_int pa_nil))) pe_int))
      (pss_one (ps_if (pt_cmpR (op_neD hr.units) (pe_call CE.ok hr (by rfl) CE.m CE.kp CE.b .nil pass0 (pa_cons (pe_call CG.ok hr (by rfl) CG.m CG.kp CG.b .nil pass0 (pa_cons pe_int pa_nil)) (pa_cons (pv 7) pa_nil)))
          (pe_callB cr_sorted (by rfl) mSorted (by decide +kernel) (pa_cons (pv 7) pa_nil)) (nomark _)) (pss_one (ps_ret pe_bl)) pss_nil))))
    (pss_cons (ps_set (i := 6) scLaw.nd rfl (.inl rfl) (pe_op op_add pe_int (pe_call CD.ok hr (by rfl) CD.m CD.kp CD.b .nil pass0 (pa_cons (pv 1) (pa_cons pe_int pa_nil)))))
    (pss_cons (ps_set (i := 8) scLaw.nd rfl (.inl rfl) (pe_lst (pa_cons (pe_call CM.ok hr (by rfl) CM.m CM.kp CM.b .nil pass0 (pa_cons (pv 6) pa_nil))
        (pa_cons (pe_callKw CM.ok hr (by rfl) CM.m CM.kp kM pass0 (pk_cons (pv 6) pk_nil))
        (pa_cons (pe_call CM.ok hr (by rfl) CM.m CM.kp CM.b .nil pass0 (pa_cons pe_int pa_nil)) (pa_cons (pe_call CM.ok hr (by rfl) CM.m CM.kp CM.b .nil pass0 (pa_cons pe_int pa_nil))
        (pa_cons (pe_call CM.ok hr (by rfl) CM.m CM.kp CM.b .nil pass0 (pa_cons pe_int pa_nil)) pa_nil)))))))
    (pss_one (ps_ret (pe_cmpR op_eq (pe_callB (call_shown rfl hr.units) (by rfl) mRepr (by decide +kernel) (pa_cons (pv 8) pa_nil))
      (pe_callB (call_shown rfl hr.units) (by rfl) mRepr (by decide +kernel) (pa_cons (pe_lst (pa_cons (pe_call CL.ok hr (by rfl) CL.m CL.kp CL.b .nil pass0 (pa_cons (pv 6) pa_nil))
        (pa_cons (pe_call CL.ok hr (by rfl) CL.m CL.kp CL.b .nil pass0 (pa_cons (pv 6) pa_nil)) (pa_cons pe_int (pa_cons pe_int (pa_cons pe_int pa_nil)))))) pa_nil)) (nomark _))))))))), ?_⟩
  -- the jar
  refine ⟨_, rfl, a, ns, rfl, hS, hlen, fun H1 p q s1 np nq J1 => ?_⟩
  -- 8 if .. == 0 else 6
  refine ⟨_, rfl, p, q, 6, rfl, by decide, by decide, J1, fun H2 v0 _ _ J2 _ => ⟨rfl, _, rfl, pick86 (fun z hz => ?_)⟩⟩
  refine menu_ok hz rfl (fun L ms nL hms => ?_)
  have s3 : Same H2 (upd H2 L (.lst (ms.map fun m : Nat => V.int (m : Int)))) := new_same nL
  have J3 := J2.keep s3
  have e3 : (upd H2 L (.lst (ms.map fun m : Nat => V.int (m : Int)))) L = some (.lst (ms.map fun m : Nat => V.int (m : Int))) := upd_same
  generalize (upd H2 L (.lst (ms.map fun m : Nat => V.int (m : Int)))) = H3 at s3 J3 e3
  refine ⟨L, rfl, ⟨_, SqL.of e3⟩, for_list (K := K) (a := L) (xs := ms.map fun m : Nat => V.int (m : Int))
    (fun i σ H' => Same H3 H' ∧ ∃ y3 y4 y5 y6 y7 y8 : Option V, σ = [some (.ref a), some (.ref p), some (.int z), y3, y4, y5, y6, y7, y8]) ⟨Same.refl _, none, none, none, none, none, none, rfl⟩
    (fun i σ H' _ ⟨a1, _⟩ => a1.seq (SqL.of e3)) (fun i x σ H4 hx ⟨s4, y3, y4, y5, y6, y7, y8, e⟩ => ?_) (fun σ H4 ⟨s4, y3, y4, y5, y6, y7, y8, e⟩ => ?_)⟩
  · -- one number of places
    subst e
    obtain ⟨m, hm, rfl⟩ : ∃ m : Nat, m ∈ asked ∧ x = .int (m : Int) := by
      rw [List.getElem?_map] at hx
      cases g : ms[i]? with
      | none =>
        rw [g] at hx
        cases hx
      | some m =>
        rw [g] at hx
        exact ⟨m, hms m (List.mem_of_getElem? g), (Option.some.inj hx).symm⟩
    obtain ⟨m1, m8⟩ := asked_in hm
    refine ⟨_, rfl, rfl, _, rfl, pickG rfl ⟨m, rfl, m1, by omega, fun H5 n xs s5 nn en gn => ?_⟩⟩
    -- are they gates, are they few
    refine ⟨_, rfl, _, rfl, n, xs, gatesL m, m, rfl, en, gn, are_gates m hm, true, rfl, iteF ?_⟩
    refine ⟨_, rfl, n, _, rfl, .inr (SqT.of en), _, rfl, m, rfl, m1, by omega, _, _, rfl, rfl, false, ?_, iteF ?_⟩
    · have a := few_gates m hm
      rw [gn.len]
      exact congrArg V.bl (decide_eq_false (by omega))
    -- do they sort
    refine ⟨_, rfl, rfl, _, rfl, ite2 (fun c => ?_) (fun c => ?_)⟩
    · refine ⟨_, rfl, _, rfl, n, xs, gatesL m, m, rfl, en, gn, m1, m8, are_gates m hm, fun v hv => all_words m hm v (List.mem_range.mpr hv), fun H6 s6 => ⟨true, rfl, iteF ?_⟩⟩
      refine shown2_ok (n := n) hm m1 (by omega) rfl rfl (s6 _ _ en) (gn.keep s6) fun H7 s7 => iteF ?_
      exact ⟨((s4.trans s5).trans s6).trans s7, _, _, _, _, _, _, rfl⟩
    · refine iteF ?_
      refine shown2_ok (n := n) hm m1 (by omega) rfl rfl en gn fun H7 s7 => iteF ?_
      exact ⟨(s4.trans s5).trans s7, _, _, _, _, _, _, rfl⟩
  subst e
  have J4 := J3.keep s4
  -- three rows
  refine ⟨3, rfl, by decide, by decide, for_range (lo := 0) (n := 3) (fun i σ H' => Jar H' p q ∧ ∃ y3 y4 y5 y6 y7 y8 : Option V, σ = [some (.ref a), some (.ref p), some (.int z), y3, y4, y5, y6, y7, y8]) ⟨J4, _, _, _, _, _, _, rfl⟩
    (fun i σ H5 hi ⟨J5, y3, y4, y5, y6, y7, y8, e⟩ => ?_) (fun σ H5 ⟨J5, y3, y4, y5, y6, y7, y8, e⟩ => ?_)⟩
  · subst e
    refine ⟨7, rfl, by decide, by decide, fun C nC => ?_⟩
    obtain ⟨o1, h1⟩ := J5.at1
    obtain ⟨o2, h2⟩ := J5.at2
    have pC : C ≠ p := (ne_of_none h1 nC).symm
    have qC : C ≠ q := (ne_of_none h2 nC).symm
    refine lc_range (lo := 0) (n := 7) (fun j H' => ∃ rs : List Int, rs.length = j ∧ Jar H' p q ∧ H' C = some (.lst (rs.map V.int))) ⟨[], rfl, J5.keep (new_same nC), upd_same⟩ (fun j H6 hj ⟨rs, lr, J6, e6⟩ => ?_) (fun H6 ⟨rs, lr, J6, e6⟩ => ?_)
    · refine ⟨rfl, _, rfl, p, q, 9, rfl, by decide, by decide, J6, fun H7 v _ _ J7 b7 => ⟨_, _, rfl, rfl, rs.map V.int, b7 _ _ pC qC e6, by rw [List.length_map]; exact size_lt (by omega), rs ++ [v - 4], by rw [List.length_append, lr]; rfl, ?_, ?_⟩⟩
      · obtain ⟨fs, st, tn, j1, j2, j3⟩ := J7
        exact ⟨fs, st, tn, by rw [upd_ne pC.symm]; exact j1, by rw [upd_ne qC.symm]; exact j2, j3⟩
      · rw [upd_same, List.map_append]
        rfl
    -- led(gates(7), row) != sorted(row)
    have lr7 : rs.length = 7 := lr
    refine ⟨7, rfl, by decide, by decide, fun H7 n xs s7 nn en gn => ?_⟩
    refine ⟨_, rfl, n, C, xs, gatesL 7, rs, rfl, en, gn, SqL.of (s7 _ _ e6), by omega, fun g hg => ?_, fun H8 c s8 nc ec => ?_⟩
    · have := are_gates 7 (by decide) g hg
      omega
    refine ⟨_, rfl, C, rs, rfl, SqL.of (s8 _ _ (s7 _ _ e6)), by omega, fun ns' t pw up nt => ?_⟩
    have es : ns' = ledL (gatesL 7) rs := same_rows _ _ (pw.trans (perm7 rs lr7).symm) up (sorts7 rs lr7)
    have s9 : Same H8 (upd H8 t (.lst (ns'.map V.int))) := new_same nt
    refine ⟨intsD (ledL (gatesL 7) rs), intsD ns', ints_dp (SqL.of (s9 _ _ ec)), ints_dp (SqL.of upd_same), ints_shaped _, ints_shaped _, false, ?_, iteF ?_⟩
    · rw [es, ints_self]
      rfl
    · exact ⟨J6.keep ((s7.trans s8).trans s9), _, _, _, _, _, _, rfl⟩
  subst e
  -- place = 1 + ..
  refine ⟨_, rfl, p, q, 64, rfl, by decide, by decide, J5, fun H6 v v0 v1 _ _ => ⟨_, _, rfl, rfl, ?_⟩⟩
  obtain ⟨m, em, m1, m64⟩ : ∃ m : Nat, (1 : Int) + v = (m : Int) ∧ 1 ≤ m ∧ m ≤ 64 := ⟨(1 + v).toNat, by omega, by omega, by omega⟩
  -- what is told
  refine ⟨_, rfl, m, congrArg (fun i : Int => [V.int i]) em, m1, m64, fun H7 s7 => ⟨_, rfl, rfl, m, congrArg (fun i : Int => [V.int i]) em, m1, m64, fun H8 s8 => ⟨64, rfl, by decide, by decide, fun H9 s9 => ⟨33, rfl, by decide, by decide, fun Ha sa => ⟨1, rfl, by decide, by decide, fun Hb sb => ?_⟩⟩⟩⟩⟩
  refine ⟨(by show 5 ≤ sizeLine; decide), fun T nT => ?_⟩
  have eT : (upd Hb T (.lst ((toldL m).map V.int))) T = some (.lst ((toldL m).map V.int)) := upd_same
  have tl : toldL m = askL m := told_ask m
  refine ⟨_, rfl, T, intsD (askL m), rfl, ?_, fit_told m, ?_⟩
  · rw [← tl]
    exact ints_dp (SqL.of eT)
  refine ⟨_, rfl, m, congrArg (fun i : Int => [V.int i]) em, m1, m64, _, rfl, m, congrArg (fun i : Int => [V.int i]) em, m1, m64, (by show 5 ≤ sizeLine; decide), fun U nU => ?_⟩
  refine ⟨U, intsD (askL m), rfl, ints_dp (ns := askL m) (SqL.of upd_same), fit_told m, rfl, ?_⟩
  exact congrArg V.bl (decide_eq_true rfl)
end
end G40
/-! What the top has written; the theorem. -/
namespace G40
open PySem PySem.Spec PyProof.Rows L2
theorem kw_one {K : PySem.W.Frag} {fd : FuncData} {y : Str} (h : ∀ u : Value, bindArgs fd ⟨[], [(y, u)]⟩ = pure [(y, u)]) : KBn K fd [y] 0 [y] (fun _ ws => ws) (fun _ zs => zs) :=
  ⟨fun s us ws _ hu hw => match us, ws, hu, hw with | [], [u], _, _ => .of_eq (h u), fun _ r => r⟩
theorem all_mk {l : PySem.W.OpenLaw} {w : World} {K : PySem.W.Frag} {h : Heap} {mg : Str → Option Value} {fa f1 f2 f3 f4 f5 f6 f7 f8 f9 f10 f11 f12 f13 : Addr} (X : K.In h) (G : h.Ns mainGlobals mg) (hfa : mg "law" = some (.ref fa))
    {od1 an1 od2 an2 od3 an3 od4 an4 od5 an5 od6 an6 od7 an7 od8 an8 od9 an9 od10 an10 od11 an11 od12 an12 od13 an13 : Option Addr} {sl1 sl2 sl3 sl4 sl5 sl6 sl7 sl8 sl9 sl10 sl11 sl12 sl13 : Array (Option Value)} {oc1 kV1 dc1 pm1 cd1 ct1 oc2 kV2 dc2 pm2 cd2 ct2 oc3 kV3 dc3 pm3 cd3 ct3 oc4 kV4 dc4 pm4 cd4 ct4 oc5 kV5 dc5 pm5 cd5 ct5 oc6 kV6 dc6 pm6 cd6 ct6 oc7 kV7 dc7 pm7 cd7 ct7 oc8 kV8 dc8 pm8 cd8 ct8 oc9 kV9 dc9 pm9 cd9 ct9 oc10 kV10 dc10 pm10 cd10 ct10 oc11 kV11 dc11 pm11 cd11 ct11 oc12 kV12 dc12 pm12 cd12 ct12 oc13 kV13 dc13 pm13 cd13 ct13 : Value}
    (a1 : PySem.W.nsIn K mainGlobals "doublings" = some (some (.ref f1)))
    (l1 : K.lookup f1 = some ⟨oc1, od1, .func (PySem.W.fnOf "doublings" "doublings" (defArgs sDbl) (defBody sDbl) (defScope sDbl) .none kV1 dc1 pm1 an1 cd1 ct1), sl1⟩)
    (c1 : PySem.W.codeIn K cd1 "doublings" = true) (k1 : PySem.W.keepIn K (.ref f1) = true)
    (a2 : PySem.W.nsIn K mainGlobals "gate_limit" = some (some (.ref f2)))
    (l2 : K.lookup f2 = some ⟨oc2, od2, .func (PySem.W.fnOf "gate_limit" "gate_limit" (defArgs sLimit) (defBody sLimit) (defScope sLimit) .none kV2 dc2 pm2 an2 cd2 ct2), sl2⟩)
    (c2 : PySem.W.codeIn K cd2 "gate_limit" = true) (k2 : PySem.W.keepIn K (.ref f2) = true)
    (a3 : PySem.W.nsIn K mainGlobals "merged" = some (some (.ref f3)))
    (l3 : K.lookup f3 = some ⟨oc3, od3, .func (PySem.W.fnOf "merged" "merged" (defArgs sMerged) (defBody sMerged) (defScope sMerged) .none kV3 dc3 pm3 an3 cd3 ct3), sl3⟩)
    (c3 : PySem.W.codeIn K cd3 "merged" = true) (k3 : PySem.W.keepIn K (.ref f3) = true)
    (a4 : PySem.W.nsIn K mainGlobals "sorted_gates" = some (some (.ref f4)))
    (l4 : K.lookup f4 = some ⟨oc4, od4, .func (PySem.W.fnOf "sorted_gates" "sorted_gates" (defArgs sSorted) (defBody sSorted) (defScope sSorted) .none kV4 dc4 pm4 an4 cd4 ct4), sl4⟩)
    (c4 : PySem.W.codeIn K cd4 "sorted_gates" = true) (k4 : PySem.W.keepIn K (.ref f4) = true)
    (a5 : PySem.W.nsIn K mainGlobals "gates" = some (some (.ref f5)))
    (l5 : K.lookup f5 = some ⟨oc5, od5, .func (PySem.W.fnOf "gates" "gates" (defArgs sGates) (defBody sGates) (defScope sGates) .none kV5 dc5 pm5 an5 cd5 ct5), sl5⟩)
    (c5 : PySem.W.codeIn K cd5 "gates" = true) (k5 : PySem.W.keepIn K (.ref f5) = true)
    (a6 : PySem.W.nsIn K mainGlobals "_law_jar" = some (some (.ref f6)))
    (l6 : K.lookup f6 = some ⟨oc6, od6, .func (PySem.W.fnOf "_law_jar" "_law_jar" (defArgs sJar) (defBody sJar) (defScope sJar) .none kV6 dc6 pm6 an6 cd6 ct6), sl6⟩)
    (c6 : PySem.W.codeIn K cd6 "_law_jar" = true) (k6 : PySem.W.keepIn K (.ref f6) = true)
    (a7 : PySem.W.nsIn K mainGlobals "_law_draw" = some (some (.ref f7)))
    (l7 : K.lookup f7 = some ⟨oc7, od7, .func (PySem.W.fnOf "_law_draw" "_law_draw" (defArgs sDraw) (defBody sDraw) (defScope sDraw) .none kV7 dc7 pm7 an7 cd7 ct7), sl7⟩)
    (c7 : PySem.W.codeIn K cd7 "_law_draw" = true) (k7 : PySem.W.keepIn K (.ref f7) = true)
    (a8 : PySem.W.nsIn K mainGlobals "_law_is_whole" = some (some (.ref f8)))
    (l8 : K.lookup f8 = some ⟨oc8, od8, .func (PySem.W.fnOf "_law_is_whole" "_law_is_whole" (defArgs sWhole) (defBody sWhole) (defScope sWhole) .none kV8 dc8 pm8 an8 cd8 ct8), sl8⟩)
    (c8 : PySem.W.codeIn K cd8 "_law_is_whole" = true) (k8 : PySem.W.keepIn K (.ref f8) = true)
    (a9 : PySem.W.nsIn K mainGlobals "_law_limit" = some (some (.ref f9)))
    (l9 : K.lookup f9 = some ⟨oc9, od9, .func (PySem.W.fnOf "_law_limit" "_law_limit" (defArgs sLim) (defBody sLim) (defScope sLim) .none kV9 dc9 pm9 an9 cd9 ct9), sl9⟩)
    (c9 : PySem.W.codeIn K cd9 "_law_limit" = true) (k9 : PySem.W.keepIn K (.ref f9) = true)
    (a10 : PySem.W.nsIn K mainGlobals "_law_are_gates" = some (some (.ref f10)))
    (l10 : K.lookup f10 = some ⟨oc10, od10, .func (PySem.W.fnOf "_law_are_gates" "_law_are_gates" (defArgs sAre) (defBody sAre) (defScope sAre) .none kV10 dc10 pm10 an10 cd10 ct10), sl10⟩)
    (c10 : PySem.W.codeIn K cd10 "_law_are_gates" = true) (k10 : PySem.W.keepIn K (.ref f10) = true)
    (a11 : PySem.W.nsIn K mainGlobals "_law_led" = some (some (.ref f11)))
    (l11 : K.lookup f11 = some ⟨oc11, od11, .func (PySem.W.fnOf "_law_led" "_law_led" (defArgs sLed) (defBody sLed) (defScope sLed) .none kV11 dc11 pm11 an11 cd11 ct11), sl11⟩)
    (c11 : PySem.W.codeIn K cd11 "_law_led" = true) (k11 : PySem.W.keepIn K (.ref f11) = true)
    (a12 : PySem.W.nsIn K mainGlobals "_law_sorts" = some (some (.ref f12)))
    (l12 : K.lookup f12 = some ⟨oc12, od12, .func (PySem.W.fnOf "_law_sorts" "_law_sorts" (defArgs sSorts) (defBody sSorts) (defScope sSorts) .none kV12 dc12 pm12 an12 cd12 ct12), sl12⟩)
    (c12 : PySem.W.codeIn K cd12 "_law_sorts" = true) (k12 : PySem.W.keepIn K (.ref f12) = true)
    (a13 : PySem.W.nsIn K mainGlobals "law" = some (some (.ref f13)))
    (l13 : K.lookup f13 = some ⟨oc13, od13, .func (PySem.W.fnOf "law" "law" (defArgs sLaw) (defBody sLaw) (defScope sLaw) .none kV13 dc13 pm13 an13 cd13 ct13), sl13⟩)
    (c13 : PySem.W.codeIn K cd13 "law" = true) (k13 : PySem.W.keepIn K (.ref f13) = true)
    (z1 : PySem.W.nsIn K mainGlobals "len" = some none)
    (z2 : PySem.W.nsIn K mainGlobals "repr" = some none)
    (z3 : PySem.W.nsIn K mainGlobals "range" = some none)
    (z4 : PySem.W.nsIn K mainGlobals "sorted" = some none)
    (z5 : PySem.W.nsIn K mainGlobals "tuple" = some none)
    (z6 : PySem.W.nsIn K mainGlobals "list" = some none)
    (z7 : PySem.W.nsIn K mainGlobals "isinstance" = some none)
    (z8 : PySem.W.nsIn K mainGlobals "int" = some none)
    (z9 : PySem.W.nsIn K mainGlobals "bool" = some none)
    (z10 : PySem.W.nsIn K mainGlobals "abs" = some none)
    : ∃ fd : FuncData, Fun K "law" "law" sLaw fa fd ∧ (∀ (s : Shared) (v : Value), BindsTo s fd ⟨[v], []⟩ [("_law_script", v)]) ∧ LawBody l.prog w K mg nLaw "_law_script" "law" sLaw fa 63 20 := by
  have e := hfa.symm.trans (PySem.W.mg_of X G a13)
  cases e
  have F1 := fun_mk (st := sDbl) l1 c1 k1
  have b1 := F1.binds (ps := ["many"]) fun _ _ _ _ _ _ us hl => match us, hl with | [_], _ => rfl
  have m1 := PySem.W.mg_of X G a1
  have F2 := fun_mk (st := sLimit) l2 c2 k2
  have b2 := F2.binds (ps := ["many"]) fun _ _ _ _ _ _ us hl => match us, hl with | [_], _ => rfl
  have m2 := PySem.W.mg_of X G a2
  have F3 := fun_mk (st := sMerged) l3 c3 k3
  have b3 := F3.binds (ps := ["low", "size", "gap"]) fun _ _ _ _ _ _ us hl => match us, hl with | [_, _, _], _ => rfl
  have m3 := PySem.W.mg_of X G a3
  have F4 := fun_mk (st := sSorted) l4 c4 k4
  have b4 := F4.binds (ps := ["low", "size"]) fun _ _ _ _ _ _ us hl => match us, hl with | [_, _], _ => rfl
  have m4 := PySem.W.mg_of X G a4
  have F5 := fun_mk (st := sGates) l5 c5 k5
  have b5 := F5.binds (ps := ["many"]) fun _ _ _ _ _ _ us hl => match us, hl with | [_], _ => rfl
  have m5 := PySem.W.mg_of X G a5
  have F6 := fun_mk (st := sJar) l6 c6 k6
  have b6 := F6.binds (ps := ["_law_script"]) fun _ _ _ _ _ _ us hl => match us, hl with | [_], _ => rfl
  have m6 := PySem.W.mg_of X G a6
  have F7 := fun_mk (st := sDraw) l7 c7 k7
  have b7 := F7.binds (ps := ["_law_jar_here", "_law_many"]) fun _ _ _ _ _ _ us hl => match us, hl with | [_, _], _ => rfl
  have m7 := PySem.W.mg_of X G a7
  have F8 := fun_mk (st := sWhole) l8 c8 k8
  have b8 := F8.binds (ps := ["_law_value"]) fun _ _ _ _ _ _ us hl => match us, hl with | [_], _ => rfl
  have m8 := PySem.W.mg_of X G a8
  have F9 := fun_mk (st := sLim) l9 c9 k9
  have b9 := F9.binds (ps := ["_law_many"]) fun _ _ _ _ _ _ us hl => match us, hl with | [_], _ => rfl
  have m9 := PySem.W.mg_of X G a9
  have F10 := fun_mk (st := sAre) l10 c10 k10
  have b10 := F10.binds (ps := ["_law_value", "_law_many"]) fun _ _ _ _ _ _ us hl => match us, hl with | [_, _], _ => rfl
  have m10 := PySem.W.mg_of X G a10
  have F11 := fun_mk (st := sLed) l11 c11 k11
  have b11 := F11.binds (ps := ["_law_network", "_law_row"]) fun _ _ _ _ _ _ us hl => match us, hl with | [_, _], _ => rfl
  have m11 := PySem.W.mg_of X G a11
  have F12 := fun_mk (st := sSorts) l12 c12 k12
  have b12 := F12.binds (ps := ["_law_network", "_law_many"]) fun _ _ _ _ _ _ us hl => match us, hl with | [_, _], _ => rfl
  have m12 := PySem.W.mg_of X G a12
  have F13 := fun_mk (st := sLaw) l13 c13 k13
  have n1 := PySem.W.mg_none_of X G z1
  have n2 := PySem.W.mg_none_of X G z2
  have n3 := PySem.W.mg_none_of X G z3
  have n4 := PySem.W.mg_none_of X G z4
  have n5 := PySem.W.mg_none_of X G z5
  have n6 := PySem.W.mg_none_of X G z6
  have n7 := PySem.W.mg_none_of X G z7
  have n8 := PySem.W.mg_none_of X G z8
  have n9 := PySem.W.mg_none_of X G z9
  have n10 := PySem.W.mg_none_of X G z10
  refine ⟨_, F13, fun s v => .of_eq rfl, ?_⟩
  exact law_body (fun base => ⟨ok_jar F6 n1 n10 n8, k6, b6, m6⟩)
    (fun base => ⟨ok_draw F7 n8, k7, b7, m7⟩)
    (fun base => ⟨((ok_gates F5 (ok_dbl (k := 7) F1) k1 b1 m1 (every_sorted F4 b4 m4 F3 b3 m3) k4 b4 m4 n5).mono (by decide)), k5, b5, m5⟩) (kw_one fun _ => rfl)
    (fun base => ⟨ok_are F10 (ok_whole (k := 18) F8 n7 n8 n9) k8 b8 m8 n7 n5 n1, k10, b10, m10⟩)
    (fun base => ⟨ok_lim F9, k9, b9, m9⟩)
    (fun base => ⟨ok_sorts F12 (ok_led (k := 18) F11 n6) k11 b11 m11 n3, k12, b12, m12⟩)
    (fun base => ⟨(ok_led (k := 18) F11 n6).mono (by decide), k11, b11, m11⟩)
    (fun base => ⟨((ok_limit F2 (ok_dbl (k := 7) F1) k1 b1 m1).mono (by decide)), k2, b2, m2⟩) (kw_one fun _ => rfl)
    n1 n2 n3 n4
end G40
open PySem PySem.W PyProof.Rows
set_option maxHeartbeats 0 in
theorem PySem.Challenge.cw_unseentables_k40_whole_gates_by_all_word_holds : PySem.Challenge.rw_unseentables_k40_whole_gates_by_all_word.Holds := by
  w_on; o_law; k_head; (case hw => w_witness2)
  k_fill
  refine G40.law_end (l := PySem.Challenge.rw_unseentables_k40_whole_gates_by_all_word) (n := 63) (k := 20) (x := "_law_script") (nm := "law") (st := G40.sLaw) (N := G40.nLaw) rfl (by decide) rfl ⟨rfl, by decide, by decide⟩ G40.scLaw (fun w h Y => PySem.W.kIn_of Y) ?F
  case F =>
    intro w mg fa h KX G hmg
    refine' G40.all_mk KX G hmg ?a1 ?l1 ?c1 ?k1 ?a2 ?l2 ?c2 ?k2 ?a3 ?l3 ?c3 ?k3 ?a4 ?l4 ?c4 ?k4 ?a5 ?l5 ?c5 ?k5 ?a6 ?l6 ?c6 ?k6 ?a7 ?l7 ?c7 ?k7 ?a8 ?l8 ?c8 ?k8 ?a9 ?l9 ?c9 ?k9 ?a10 ?l10 ?c10 ?k10 ?a11 ?l11 ?c11 ?k11 ?a12 ?l12 ?c12 ?k12 ?a13 ?l13 ?c13 ?k13 ?z1 ?z2 ?z3 ?z4 ?z5 ?z6 ?z7 ?z8 ?z9 ?z10
    (case a1 => k_is)
    (case l1 => k_is)
    (case c1 => k_is)
    (case k1 => k_is)
    (case a2 => k_is)
    (case l2 => k_is)
    (case c2 => k_is)
    (case k2 => k_is)
    (case a3 => k_is)
    (case l3 => k_is)
    (case c3 => k_is)
    (case k3 => k_is)
    (case a4 => k_is)
    (case l4 => k_is)
    (case c4 => k_is)
    (case k4 => k_is)
    (case a5 => k_is)
    (case l5 => k_is)
    (case c5 => k_is)
    (case k5 => k_is)
    (case a6 => k_is)
    (case l6 => k_is)
    (case c6 => k_is)
    (case k6 => k_is)
    (case a7 => k_is)
    (case l7 => k_is)
    (case c7 => k_is)
    (case k7 => k_is)
    (case a8 => k_is)
    (case l8 => k_is)
    (case c8 => k_is)
    (case k8 => k_is)
    (case a9 => k_is)
    (case l9 => k_is)
    (case c9 => k_is)
    (case k9 => k_is)
    (case a10 => k_is)
    (case l10 => k_is)
    (case c10 => k_is)
    (case k10 => k_is)
    (case a11 => k_is)
    (case l11 => k_is)
    (case c11 => k_is)
    (case k11 => k_is)
    (case a12 => k_is)
    (case l12 => k_is)
    (case c12 => k_is)
    (case k12 => k_is)
    (case a13 => k_is)
    (case l13 => k_is)
    (case c13 => k_is)
    (case k13 => k_is)
    (case z1 => k_is)
    (case z2 => k_is)
    (case z3 => k_is)
    (case z4 => k_is)
    (case z5 => k_is)
    (case z6 => k_is)
    (case z7 => k_is)
    (case z8 => k_is)
    (case z9 => k_is)
    (case z10 => k_is)
