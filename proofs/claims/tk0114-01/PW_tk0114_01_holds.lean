import PyProof.Rows.All
import Wide.All
import OpenK.AllK
import Wide.FinOn
import Lean
import PySem.Challenge.RW_tk0114_01
set_option Elab.async false
set_option maxRecDepth 100000
set_option maxHeartbeats 8000000
namespace Mine
/-- an item at an int -/
abbrev gi (xs : List Int) (i : Int) : Int := xs.getD i.toNat 0
/-- the queue behind the first loop of at: its dear ends dropped -/
def popBack (ms : List Int) (f : Int) (q : List Int) : List Int := (q.reverse.dropWhile fun i => decide (gi ms f ≤ gi ms i)).reverse
/-- the queue behind a call of at -/
def atQ (ms : List Int) (fewest most count : Int) (q : List Int) : List Int := (popBack ms (count - fewest) q ++ [count - fewest]).dropWhile fun i => decide (i < count - most)
theorem popBack_nil (ms : List Int) (f : Int) : popBack ms f [] = [] := rfl
theorem popBack_snoc (ms : List Int) (f : Int) (q : List Int) (i : Int) : popBack ms f (q ++ [i]) = if gi ms f ≤ gi ms i then popBack ms f q else q ++ [i] := by
  unfold popBack
  rw [List.reverse_append, List.reverse_singleton, List.singleton_append, List.dropWhile_cons]
  by_cases h : gi ms f ≤ gi ms i
  · rw [if_pos (decide_eq_true h), if_pos h]
  · rw [if_neg (fun e => h (of_decide_eq_true e)), if_neg h]
    simp

theorem snoc_of_last : ∀ {q : List Int}, 0 < q.length → q = q.dropLast ++ [q.getD (-1 + (q.length : Int)).toNat 0] := by
  intro q h
  have hne : q ≠ [] := fun e => by rw [e] at h; cases h
  have e1 : (-1 + (q.length : Int)).toNat = q.length - 1 := by omega
  rw [e1, List.getD_eq_getElem?_getD, List.getElem?_eq_getElem (by omega)]
  have := List.dropLast_concat_getLast hne
  rw [List.getLast_eq_getElem] at this
  exact this.symm
/-- the first loop of at: its start, its turn, its two ends -/
theorem at_s0 {ms q0 : List Int} {f : Int} (h2 : ∀ i ∈ q0, 0 ≤ i ∧ i < (ms.length : Int)) (h3 : q0.length ≤ 1000) : popBack ms f q0 = popBack ms f q0 ∧ (∀ i ∈ q0, 0 ≤ i ∧ i < (ms.length : Int)) ∧ q0.length ≤ 1000 := ⟨rfl, h2, h3⟩
theorem at_s1 {ms q q0 : List Int} {f : Int} (h1 : popBack ms f q = popBack ms f q0) (h2 : ∀ i ∈ q, 0 ≤ i ∧ i < (ms.length : Int)) (h3 : q.length ≤ 1000) (hq : 0 < q.length) (hc : gi ms f ≤ gi ms (q.getD (-1 + (q.length : Int)).toNat 0)) :
    popBack ms f q.dropLast = popBack ms f q0 ∧ (∀ i ∈ q.dropLast, 0 ≤ i ∧ i < (ms.length : Int)) ∧ q.dropLast.length ≤ 1000 := by
  refine ⟨?_, fun i hi => h2 i (List.dropLast_subset q hi), by rw [List.length_dropLast]; omega⟩
  rw [← h1]
  conv => rhs; rw [snoc_of_last hq, popBack_snoc, if_pos hc]
theorem at_m1 {q : List Int} (hq : 0 < q.length) : q.dropLast.length < q.length := by rw [List.length_dropLast]; omega
theorem at_s2 {ms q q0 : List Int} {fewest most count : Int} (h1 : popBack ms (count - fewest) q = popBack ms (count - fewest) q0) (h3 : q.length ≤ 1000) (hq : ¬ 0 < q.length) :
    ((q ++ [count - fewest]).dropWhile fun i => decide (i < count - most)) = atQ ms fewest most count q0 ∧ count - fewest ∈ q ++ [count - fewest] ∧ 0 < (q ++ [count - fewest]).length ∧ (q ++ [count - fewest]).length ≤ 1001 := by
  have hn : q = [] := List.eq_nil_of_length_eq_zero (by omega)
  subst hn
  refine ⟨?_, by simp, by simp, by simp⟩
  unfold atQ
  rw [← h1, popBack_nil]
theorem at_s3 {ms q q0 : List Int} {fewest most count : Int} (h1 : popBack ms (count - fewest) q = popBack ms (count - fewest) q0) (h3 : q.length ≤ 1000) (hc : ¬ gi ms (count - fewest) ≤ gi ms (q.getD (-1 + (q.length : Int)).toNat 0)) :
    ((q ++ [count - fewest]).dropWhile fun i => decide (i < count - most)) = atQ ms fewest most count q0 ∧ count - fewest ∈ q ++ [count - fewest] ∧ 0 < (q ++ [count - fewest]).length ∧ (q ++ [count - fewest]).length ≤ 1001 := by
  have hq : popBack ms (count - fewest) q = q := by
    by_cases h : 0 < q.length
    · conv => lhs; rw [snoc_of_last h, popBack_snoc, if_neg hc]
      exact (snoc_of_last h).symm
    · have hn : q = [] := List.eq_nil_of_length_eq_zero (by omega)
      subst hn; rfl
  refine ⟨?_, by simp, by simp, by simp; omega⟩
  unfold atQ
  rw [← h1, hq]

theorem at_s4 {Z q : List Int} {fewest most count : Int} (hb : fewest ≤ most) (h1 : (q.dropWhile fun i => decide (i < count - most)) = Z) (h2 : count - fewest ∈ q) (h3 : q.length ≤ 1001) (hc : q.getD (Int.toNat 0) 0 < count - most) :
    (q.tail.dropWhile fun i => decide (i < count - most)) = Z ∧ count - fewest ∈ q.tail ∧ 0 < q.tail.length ∧ q.tail.length ≤ 1001 := by
  cases q with
  | nil => cases h2
  | cons i r =>
    have hc' : i < count - most := hc
    rw [List.dropWhile_cons, if_pos (decide_eq_true hc')] at h1
    have h4 : count - fewest ∈ r := by
      rcases List.mem_cons.mp h2 with e | e
      · omega
      · exact e
    exact ⟨h1, h4, List.length_pos_of_mem h4, by rw [List.length_cons] at h3; show r.length ≤ 1001; omega⟩
theorem at_m2 {q : List Int} (hq : 0 < q.length) : q.tail.length < q.length := by rw [List.length_tail]; omega
theorem at_end {Z q : List Int} {k : Int} (h1 : (q.dropWhile fun i => decide (i < k)) = Z) (hc : ¬ q.getD (Int.toNat 0) 0 < k) : q = Z := by
  cases q with
  | nil => exact h1
  | cons i r =>
    have hc' : ¬ i < k := hc
    rw [List.dropWhile_cons, if_neg (fun e => hc' (of_decide_eq_true e))] at h1
    exact h1
theorem at_val : ∀ q : List Int, q.getD (Int.toNat 0) 0 = q.headD 0
  | [] => rfl
  | _ :: _ => rfl

/-- the latest of the cheapest places -/
def latS (ms : List Int) (b : Option Int) (p : Int) : Option Int := match b with
  | none => some p
  | some q => if gi ms p ≤ gi ms q then some p else some q
def latestP (ms ts : List Int) : Option Int := ts.foldl (latS ms) none
theorem latestP_snoc (ms ts : List Int) (p : Int) : latestP ms (ts ++ [p]) = latS ms (latestP ms ts) p := by
  unfold latestP; rw [List.foldl_append]; rfl
theorem latestP_mem (ms : List Int) (ts : List Int) : ∀ q, latestP ms ts = some q → q ∈ ts := by
  have key : ∀ (ts : List Int) (b : Option Int) (q : Int), ts.foldl (latS ms) b = some q → q ∈ ts ∨ b = some q := by
    intro ts
    induction ts with
    | nil => intro b q h; exact .inr h
    | cons p r ih =>
      intro b q h
      rw [List.foldl_cons] at h
      rcases ih _ _ h with h1 | h1
      · exact .inl (.tail _ h1)
      · cases b with
        | none => exact .inl (by rw [← Option.some.inj h1]; exact .head _)
        | some i =>
          unfold latS at h1
          dsimp only at h1
          split at h1
          · exact .inl (by rw [← Option.some.inj h1]; exact .head _)
          · exact .inr h1
  intro q h
  rcases key ts none q h with h1 | h1
  · exact h1
  · cases h1
theorem lat_take (ms ts : List Int) (i : Nat) (p : Int) (h : ts[i]? = some p) : latestP ms (ts.take (i + 1)) = latS ms (latestP ms (ts.take i)) p := by
  rw [List.take_add_one, h]; exact latestP_snoc ms _ p

/-- those that wait: cheaper than all behind them -/
def waitS (ms : List Int) (f : List Int) (p : Int) : List Int := if f = [] ∨ gi ms p < gi ms (gi f 0) then p :: f else f
def waitP (ms ts : List Int) : List Int := ts.reverse.foldl (waitS ms) []
theorem waitF_sub (ms : List Int) : ∀ (ts f : List Int), (∀ x ∈ ts.foldl (waitS ms) f, x ∈ ts ∨ x ∈ f) ∧ (ts.foldl (waitS ms) f).length ≤ ts.length + f.length := by
  intro ts
  induction ts with
  | nil => intro f; exact ⟨fun x h => .inr h, by simp⟩
  | cons p r ih =>
    intro f
    rw [List.foldl_cons]
    obtain ⟨h1, h2⟩ := ih (waitS ms f p)
    constructor
    · intro x hx
      rcases h1 x hx with h | h
      · exact .inl (.tail _ h)
      · unfold waitS at h
        split at h
        · rcases List.mem_cons.mp h with rfl | h
          · exact .inl (.head _)
          · exact .inr h
        · exact .inr h
    · have : (waitS ms f p).length ≤ f.length + 1 := by unfold waitS; split <;> simp
      rw [List.length_cons]; omega
theorem wait_len {ms ts fl : List Int} {i : Nat} (h : fl = (ts.reverse.take i).foldl (waitS ms) []) : fl.length ≤ ts.length := by
  have h2 := (waitF_sub ms (ts.reverse.take i) []).2
  rw [← h, List.length_take, List.length_reverse] at h2
  simp only [List.length_nil] at h2
  omega
theorem wait_head {ms ts fl : List Int} {i : Nat} {M : Int} (b : ∀ i ∈ ts, 0 ≤ i ∧ i < M) (h : fl = (ts.reverse.take i).foldl (waitS ms) []) (hf : 0 < fl.length) : 0 ≤ fl.getD (Int.toNat 0) 0 ∧ fl.getD (Int.toNat 0) 0 < M := by
  have h2 := (waitF_sub ms (ts.reverse.take i) []).1
  rw [← h] at h2
  cases fl with
  | nil => cases hf
  | cons x r =>
    have h3 := h2 x (.head _)
    rcases h3 with h3 | h3
    · exact b x (List.mem_reverse.mp (List.mem_of_mem_take h3))
    · cases h3
theorem wait_pos {fl : List Int} (h : decide (fl = []) = false) : 0 < fl.length := by
  cases fl with
  | nil => simp at h
  | cons x r => exact Nat.succ_pos _
theorem wait_take (ms ts fl : List Int) (i : Nat) (p : Int) (h : ts[i]? = some p) (hP : fl = (ts.take i).foldl (waitS ms) []) : (ts.take (i + 1)).foldl (waitS ms) [] = waitS ms fl p := by
  rw [List.take_add_one, h, List.foldl_append, ← hP]; rfl
theorem wait_e1 {ms ts fl : List Int} {i : Nat} {n : Int} (h : ts[i]? = some n) (hP : fl = (ts.take i).foldl (waitS ms) []) (hd : decide (fl = []) = true) : [n] ++ fl = (ts.take (i + 1)).foldl (waitS ms) [] := by
  rw [wait_take ms ts fl i n h hP, waitS, if_pos (.inl (of_decide_eq_true hd))]; rfl
theorem wait_e2 {ms ts fl : List Int} {i : Nat} {n : Int} (h : ts[i]? = some n) (hP : fl = (ts.take i).foldl (waitS ms) []) (hd : gi ms n < gi ms (fl.getD (Int.toNat 0) 0)) : [n] ++ fl = (ts.take (i + 1)).foldl (waitS ms) [] := by
  rw [wait_take ms ts fl i n h hP, waitS, if_pos (.inr hd)]; rfl
theorem wait_e3 {ms ts fl : List Int} {i : Nat} {n : Int} (h : ts[i]? = some n) (hP : fl = (ts.take i).foldl (waitS ms) []) (h0 : decide (fl = []) = false) (hd : ¬ gi ms n < gi ms (fl.getD (Int.toNat 0) 0)) : fl = (ts.take (i + 1)).foldl (waitS ms) [] := by
  rw [wait_take ms ts fl i n h hP, waitS, if_neg (fun e => e.elim (of_decide_eq_false h0) hd)]

/-- the places of a count -/
def win (fewest most first count : Int) : List Int := ((List.range (count - first).toNat).map fun (i : Nat) => first + (i : Int)).filter fun p => decide (fewest ≤ count - p) && decide (count - p ≤ most)
theorem win_mem {fewest most first count p : Int} : p ∈ win fewest most first count ↔ first ≤ p ∧ p < count ∧ fewest ≤ count - p ∧ count - p ≤ most := by
  unfold win
  rw [List.mem_filter, List.mem_map]
  simp only [List.mem_range, Bool.and_eq_true, decide_eq_true_eq]
  constructor
  · rintro ⟨⟨i, hi, rfl⟩, h1, h2⟩
    omega
  · rintro ⟨h1, h2, h3, h4⟩
    exact ⟨⟨(p - first).toNat, by omega, by omega⟩, h3, h4⟩
theorem win_nil {fewest most first count : Int} (h : count - fewest < first) : win fewest most first count = [] := by
  rw [List.eq_nil_iff_forall_not_mem]
  intro p hp
  have := win_mem.mp hp
  omega
theorem take_all {ms : List Int} {n : Nat} (h : ms.length ≤ n) : ms.take n = ms := List.take_of_length_le h
theorem waitP_nil (ms : List Int) : waitP ms [] = [] := rfl
theorem waitP_cons (ms : List Int) (x : Int) (W : List Int) : waitP ms (x :: W) = waitS ms (waitP ms W) x := by
  unfold waitP; rw [List.reverse_cons, List.foldl_append]; rfl
theorem popBack_cons (ms : List Int) (f x : Int) (r : List Int) : popBack ms f (x :: r) = if popBack ms f r = [] then (if gi ms f ≤ gi ms x then [] else [x]) else x :: popBack ms f r := by
  unfold popBack
  rw [List.reverse_cons, List.dropWhile_append]
  by_cases h : (List.dropWhile (fun i => decide (gi ms f ≤ gi ms i)) r.reverse) = []
  · rw [h]
    simp only [List.isEmpty_nil, if_true, List.reverse_nil]
    by_cases h2 : gi ms f ≤ gi ms x
    · rw [List.dropWhile_cons, if_pos (decide_eq_true h2), if_pos h2]; rfl
    · rw [List.dropWhile_cons, if_neg (by rw [decide_eq_false h2]; simp), if_neg h2]; rfl
  · have h3 : (List.dropWhile (fun i => decide (gi ms f ≤ gi ms i)) r.reverse).isEmpty = false := by
      cases q : List.dropWhile (fun i => decide (gi ms f ≤ gi ms i)) r.reverse with
      | nil => exact absurd q h
      | cons a b => rfl
    rw [h3]
    simp only [Bool.false_eq_true, if_false, List.reverse_eq_nil_iff, h, List.reverse_append, List.reverse_cons, List.reverse_nil, List.nil_append, List.singleton_append]
theorem popBack_empty {ms : List Int} {f : Int} : ∀ {r : List Int}, popBack ms f r = [] → ∀ x ∈ r, gi ms f ≤ gi ms x
  | [], _, _, hx => nomatch hx
  | y :: r, h, x, hx => by
    rw [popBack_cons] at h
    by_cases h1 : popBack ms f r = []
    · rw [if_pos h1] at h
      by_cases h2 : gi ms f ≤ gi ms y
      · rcases List.mem_cons.mp hx with rfl | hx
        · exact h2
        · exact popBack_empty h1 x hx
      · rw [if_neg h2] at h; cases h
    · rw [if_neg h1] at h; cases h
theorem popBack_head {ms : List Int} {f : Int} {y : Int} {r : List Int} (h : popBack ms f (y :: r) ≠ []) : ∃ r', popBack ms f (y :: r) = y :: r' := by
  rw [popBack_cons] at h ⊢
  by_cases h1 : popBack ms f r = []
  · rw [if_pos h1] at h ⊢
    by_cases h2 : gi ms f ≤ gi ms y
    · rw [if_pos h2] at h; exact absurd rfl h
    · rw [if_neg h2]; exact ⟨[], rfl⟩
  · rw [if_neg h1]; exact ⟨_, rfl⟩
theorem waitP_snoc (ms : List Int) (p : Int) : ∀ W : List Int, waitP ms (W ++ [p]) = popBack ms p (waitP ms W) ++ [p]
  | [] => rfl
  | x :: W => by
    rw [List.cons_append, waitP_cons, waitP_snoc ms p W, waitP_cons]
    cases hr : waitP ms W with
    | nil =>
      have e1 : waitS ms [] x = [x] := if_pos (.inl rfl)
      rw [e1, popBack_nil, List.nil_append, popBack_cons, if_pos (popBack_nil ms p)]
      unfold waitS
      by_cases h : gi ms p ≤ gi ms x
      · have h' : ¬ gi ms x < gi ms (gi [p] 0) := by show ¬ gi ms x < gi ms p; omega
        rw [if_pos h, if_neg (fun e => e.elim (fun q => by cases q) h')]; rfl
      · have h' : gi ms x < gi ms (gi [p] 0) := by show gi ms x < gi ms p; omega
        rw [if_neg h, if_pos (.inr h')]; rfl
    | cons y r =>
      by_cases hp : popBack ms p (y :: r) = []
      · have hall := popBack_empty hp y (.head _)
        rw [hp, List.nil_append]
        by_cases hx : gi ms x < gi ms y
        · have e1 : waitS ms (y :: r) x = x :: y :: r := by unfold waitS; exact if_pos (.inr hx)
          rw [e1, popBack_cons, if_pos hp]
          unfold waitS
          by_cases h : gi ms p ≤ gi ms x
          · have h' : ¬ gi ms x < gi ms (gi [p] 0) := by show ¬ gi ms x < gi ms p; omega
            rw [if_pos h, if_neg (fun e => e.elim (fun q => by cases q) h')]; rfl
          · have h' : gi ms x < gi ms (gi [p] 0) := by show gi ms x < gi ms p; omega
            rw [if_neg h, if_pos (.inr h')]; rfl
        · have e1 : waitS ms (y :: r) x = y :: r := by
            unfold waitS
            exact if_neg (fun e => e.elim (fun q => by cases q) hx)
          rw [e1, hp]
          have h' : ¬ gi ms x < gi ms (gi [p] 0) := by show ¬ gi ms x < gi ms p; omega
          unfold waitS
          rw [if_neg (fun e => e.elim (fun q => by cases q) h')]; rfl
      · obtain ⟨r', hr'⟩ := popBack_head hp
        by_cases hx : gi ms x < gi ms y
        · have e1 : waitS ms (y :: r) x = x :: y :: r := by unfold waitS; exact if_pos (.inr hx)
          rw [e1, popBack_cons ms p x, if_neg hp, hr']
          unfold waitS
          exact if_pos (.inr hx)
        · have e1 : waitS ms (y :: r) x = y :: r := by
            unfold waitS
            exact if_neg (fun e => e.elim (fun q => by cases q) hx)
          rw [e1, hr']
          unfold waitS
          exact if_neg (fun e => e.elim (fun q => by cases q) hx)
theorem waitP_sub {ms : List Int} {W : List Int} {x : Int} (h : x ∈ waitP ms W) : x ∈ W := by
  rcases (waitF_sub ms W.reverse []).1 x h with h | h
  · exact List.mem_reverse.mp h
  · cases h
theorem waitP_app (ms : List Int) (B : List Int) : ∀ A : List Int, ∃ A', waitP ms (A ++ B) = A' ++ waitP ms B ∧ ∀ x ∈ A', x ∈ A
  | [] => ⟨[], rfl, (fun _ h => nomatch h)⟩
  | a :: A => by
    obtain ⟨A', h1, h2⟩ := waitP_app ms B A
    rw [List.cons_append, waitP_cons, h1]
    unfold waitS
    split
    · exact ⟨a :: A', rfl, fun x hx => by rcases List.mem_cons.mp hx with rfl | hx; exact .head _; exact .tail _ (h2 x hx)⟩
    · exact ⟨A', rfl, fun x hx => .tail _ (h2 x hx)⟩
/-- the least stands first -/
theorem waitP_least (ms : List Int) : ∀ (W : List Int) (y : Int) (r : List Int), waitP ms W = y :: r → ∀ x ∈ y :: r, gi ms y ≤ gi ms x
  | [], _, _, h => by cases h
  | a :: W, y, r, h => by
    rw [waitP_cons] at h
    cases hr : waitP ms W with
    | nil =>
      rw [hr] at h
      have : waitS ms [] a = [a] := if_pos (.inl rfl)
      rw [this] at h
      cases h
      intro x hx
      rw [List.mem_singleton.mp hx]; exact Int.le_refl _
    | cons y' r' =>
      have ih := waitP_least ms W y' r' hr
      rw [hr] at h
      unfold waitS at h
      by_cases hx : gi ms a < gi ms y'
      · rw [if_pos (.inr hx)] at h
        cases h
        intro x hx'
        rcases List.mem_cons.mp hx' with rfl | hx'
        · exact Int.le_refl _
        · exact Int.le_trans (Int.le_of_lt hx) (ih x hx')
      · rw [if_neg (fun e => e.elim (fun q => by cases q) hx)] at h
        cases h
        exact ih
theorem latestP_head (ms : List Int) (W : List Int) : latestP ms W = (waitP ms W).head? := by
  have key : ∀ n (W : List Int), W.length = n → latestP ms W = (waitP ms W).head? := by
    intro n
    induction n with
    | zero => intro W h; rw [List.eq_nil_of_length_eq_zero h]; rfl
    | succ n ih =>
      intro W h
      have hne : W ≠ [] := fun e => by rw [e] at h; cases h
      obtain ⟨V, p, rfl⟩ : ∃ V p, W = V ++ [p] := ⟨W.dropLast, W.getLast hne, (List.dropLast_concat_getLast hne).symm⟩
      have hV := ih V (by rw [List.length_append, List.length_singleton] at h; omega)
      rw [latestP_snoc, hV, waitP_snoc]
      cases hr : waitP ms V with
      | nil => rfl
      | cons y r =>
        have hl := waitP_least ms V y r hr
        show (if gi ms p ≤ gi ms y then some p else some y) = _
        by_cases h2 : gi ms p ≤ gi ms y
        · rw [if_pos h2]
          have : popBack ms p (y :: r) = [] := by
            have all : ∀ q : List Int, (∀ x ∈ q, gi ms p ≤ gi ms x) → popBack ms p q = [] := by
              intro q
              induction q with
              | nil => intro _; rfl
              | cons a q ihq =>
                intro hq
                rw [popBack_cons, if_pos (ihq fun x hx => hq x (.tail _ hx)), if_pos (hq a (.head _))]
            exact all _ fun x hx => Int.le_trans h2 (hl x hx)
          rw [this]; rfl
        · rw [if_neg h2]
          have hp : popBack ms p (y :: r) ≠ [] := fun e => h2 (popBack_empty e y (.head _))
          obtain ⟨r', hr'⟩ := popBack_head hp
          rw [hr']; rfl
  exact key _ W rfl
theorem sorted_ext : ∀ {a b : List Int}, a.Pairwise (· < ·) → b.Pairwise (· < ·) → (∀ x, x ∈ a ↔ x ∈ b) → a = b
  | [], [], _, _, _ => rfl
  | [], y :: b, _, _, h => absurd ((h y).mpr (.head _)) (fun q => nomatch q)
  | x :: a, [], _, _, h => absurd ((h x).mp (.head _)) (fun q => nomatch q)
  | x :: a, y :: b, ha, hb, h => by
    rw [List.pairwise_cons] at ha hb
    have hxy : x = y := by
      rcases List.mem_cons.mp ((h x).mp (.head _)) with e | e
      · exact e
      · rcases List.mem_cons.mp ((h y).mpr (.head _)) with e' | e'
        · exact e'.symm
        · have := hb.1 x e; have := ha.1 y e'; omega
    subst hxy
    rw [sorted_ext ha.2 hb.2 fun z => ⟨fun hz => ?_, fun hz => ?_⟩]
    · rcases List.mem_cons.mp ((h z).mp (.tail _ hz)) with e | e
      · have := ha.1 z hz; omega
      · exact e
    · rcases List.mem_cons.mp ((h z).mpr (.tail _ hz)) with e | e
      · have := hb.1 z hz; omega
      · exact e
theorem dropWhile_sorted {k : Int} : ∀ {W : List Int}, W.Pairwise (· < ·) → ∃ A, W = A ++ (W.dropWhile fun i => decide (i < k)) ∧ (∀ x ∈ A, x < k) ∧ ∀ x ∈ (W.dropWhile fun i => decide (i < k)), k ≤ x
  | [], _ => ⟨[], rfl, (fun _ h => nomatch h), (fun _ h => nomatch h)⟩
  | y :: W, h => by
    rw [List.pairwise_cons] at h
    rw [List.dropWhile_cons]
    by_cases hy : y < k
    · rw [if_pos (decide_eq_true hy)]
      obtain ⟨A, h1, h2, h3⟩ := dropWhile_sorted h.2
      refine ⟨y :: A, by rw [List.cons_append, ← h1], fun x hx => ?_, h3⟩
      rcases List.mem_cons.mp hx with rfl | hx
      · exact hy
      · exact h2 x hx
    · rw [if_neg (by rw [decide_eq_false hy]; simp)]
      refine ⟨[], rfl, (fun _ h => nomatch h), fun x hx => ?_⟩
      rcases List.mem_cons.mp hx with rfl | hx
      · omega
      · have := h.1 x hx; omega
theorem waitP_drop (ms : List Int) {k : Int} {W : List Int} (hW : W.Pairwise (· < ·)) : (waitP ms W).dropWhile (fun i => decide (i < k)) = waitP ms (W.dropWhile fun i => decide (i < k)) := by
  obtain ⟨A, h1, h2, h3⟩ := dropWhile_sorted (k := k) hW
  obtain ⟨A', h4, h5⟩ := waitP_app ms (W.dropWhile fun i => decide (i < k)) A
  rw [← h1] at h4
  rw [h4]
  have pre : ∀ (A' R : List Int), (∀ x ∈ A', x < k) → (∀ x ∈ R, k ≤ x) → (A' ++ R).dropWhile (fun i => decide (i < k)) = R := by
    intro A'
    induction A' with
    | nil =>
      intro R _ hR
      cases R with
      | nil => rfl
      | cons y R =>
        have := hR y (.head _)
        rw [List.nil_append, List.dropWhile_cons, if_neg (by rw [decide_eq_false (by omega)]; simp)]
    | cons y A' ih =>
      intro R hA hR
      rw [List.cons_append, List.dropWhile_cons, if_pos (decide_eq_true (hA y (.head _)))]
      exact ih R (fun x hx => hA x (.tail _ hx)) hR
  exact pre A' _ (fun x hx => h2 x (h5 x hx)) fun x hx => h3 x (waitP_sub hx)
theorem win_sorted (fewest most first count : Int) : (win fewest most first count).Pairwise (· < ·) := by
  unfold win
  refine List.Pairwise.filter _ ?_
  rw [List.pairwise_map]
  exact List.pairwise_lt_range.imp fun h => by omega
theorem win_step {fewest most first count : Int} (_h1 : fewest ≤ most) (h2 : first ≤ count - fewest) (h3 : 1 ≤ fewest) : win fewest most first count = (win fewest most first (count - 1) ++ [count - fewest]).dropWhile fun i => decide (i < count - most) := by
  have hs : (win fewest most first (count - 1) ++ [count - fewest]).Pairwise (· < ·) := by
    rw [List.pairwise_append]
    refine ⟨win_sorted _ _ _ _, by simp, fun x hx y hy => ?_⟩
    rw [List.mem_singleton.mp hy]
    have := win_mem.mp hx
    omega
  obtain ⟨A, e1, e2, e3⟩ := dropWhile_sorted (k := count - most) hs
  refine sorted_ext (win_sorted _ _ _ _) (hs.sublist (List.dropWhile_sublist _)) fun x => ⟨fun hx => ?_, fun hx => ?_⟩
  · have hx' := win_mem.mp hx
    have hm : x ∈ win fewest most first (count - 1) ++ [count - fewest] := by
      by_cases e : x = count - fewest
      · rw [e]; simp
      · exact List.mem_append_left _ (win_mem.mpr (by omega))
    rw [e1] at hm
    rcases List.mem_append.mp hm with hm | hm
    · have := e2 x hm; omega
    · exact hm
  · have h4 := e3 x hx
    have h5 := (List.dropWhile_sublist _).subset hx
    rcases List.mem_append.mp h5 with h5 | h5
    · have := win_mem.mp h5
      exact win_mem.mpr (by omega)
    · rw [List.mem_singleton.mp h5] at h4 ⊢
      exact win_mem.mpr (by omega)
/-- the costs matter at the places alone -/
theorem popBack_congr {ms ms' : List Int} {f : Int} {q : List Int} (hf : gi ms f = gi ms' f) (hq : ∀ x ∈ q, gi ms x = gi ms' x) : popBack ms f q = popBack ms' f q := by
  induction q with
  | nil => rfl
  | cons x r ih => rw [popBack_cons, popBack_cons, ih fun y hy => hq y (.tail _ hy), hf, hq x (.head _)]
theorem gi_take {ms : List Int} {n : Nat} {x : Int} (h0 : 0 ≤ x) (h1 : x < n) : gi (ms.take n) x = gi ms x := by
  unfold gi
  rw [List.getD_eq_getElem?_getD, List.getD_eq_getElem?_getD, List.getElem?_take, if_pos (by omega)]
/-- THE STEP: a call of at turns the queue of one count into the next one's -/
theorem at_step {ms : List Int} {n : Nat} {fewest most first count : Int} (h0 : 0 ≤ first) (h1 : fewest ≤ most) (h2 : first ≤ count - fewest) (h3 : 1 ≤ fewest) (hn : count ≤ n) :
    atQ (ms.take n) fewest most count (waitP ms (win fewest most first (count - 1))) = waitP ms (win fewest most first count) := by
  unfold atQ
  rw [popBack_congr (ms' := ms) (gi_take (by omega) (by omega)) (fun x hx => ?_), ← waitP_snoc, waitP_drop ms, ← win_step h1 h2 h3]
  · rw [List.pairwise_append]
    refine ⟨win_sorted _ _ _ _, by simp, fun x hx y hy => ?_⟩
    rw [List.mem_singleton.mp hy]
    have := win_mem.mp hx
    omega
  · have := win_mem.mp (waitP_sub hx)
    exact gi_take (by omega) (by omega)
theorem at_lat (ms : List Int) {fewest most first count : Int} (h1 : fewest ≤ most) (h2 : first ≤ count - fewest) (h3 : 1 ≤ fewest) : latestP ms (win fewest most first count) = some ((waitP ms (win fewest most first count)).headD 0) := by
  rw [latestP_head]
  cases hr : waitP ms (win fewest most first count) with
  | cons y r => rfl
  | nil =>
    have hm : count - fewest ∈ win fewest most first count := win_mem.mpr (by omega)
    obtain ⟨A, B, e⟩ := List.append_of_mem hm
    have h4 : waitP ms (win fewest most first count) ≠ [] := by
      rw [e]
      obtain ⟨A', h5, _⟩ := waitP_app ms ((count - fewest) :: B) A
      rw [h5, waitP_cons]
      have : waitS ms (waitP ms B) (count - fewest) ≠ [] := by
        unfold waitS
        split
        · exact fun q => by cases q
        · rename_i q
          exact fun q' => q (.inl q')
      exact fun q => this (List.append_eq_nil_iff.mp q).2
    exact absurd hr h4
theorem win_len (fewest most first count : Int) : (win fewest most first count).length ≤ (count - first).toNat := by
  unfold win
  refine Nat.le_trans (List.length_filter_le ..) ?_
  rw [List.length_map, List.length_range]; exact Nat.le_refl _
theorem waitP_len (ms W : List Int) : (waitP ms W).length ≤ W.length := by
  have h := (waitF_sub ms W.reverse []).2
  rw [List.length_reverse] at h
  exact h
/-- the facts of a turn of _law_nearest_right -/
theorem near_tl {ms : List Int} {b : Int} {i : Nat} (hi : i < ((ms.length : Int) + 1 - b).toNat) (hb : 0 ≤ b) : (ms.take (b.toNat + i)).length = b.toNat + i ∧ b + (i : Int) ≤ ms.length := by
  rw [List.length_take]; omega
theorem near_at {ms ql : List Int} {b F M first : Int} {i : Nat} (hP : ql = waitP ms (win F M first (b + (i : Int) - 1))) (h0 : 0 ≤ first) (h1 : F ≤ M) (h2 : first ≤ b + (i : Int) - F) (h3 : 1 ≤ F) (h4 : 0 ≤ b) :
    atQ (ms.take (b.toNat + i)) F M (b + (i : Int)) ql = waitP ms (win F M first (b + (i : Int))) := by
  rw [hP]; exact at_step h0 h1 h2 h3 (by omega)
theorem near_latN {ms : List Int} {F M first c : Int} (h : c - F < first) : latestP ms (win F M first c) = none := by rw [win_nil h]; rfl
theorem near_qN {ms ql : List Int} {b F M first : Int} {i : Nat} (hP : ql = waitP ms (win F M first (b + (i : Int) - 1))) (h : b + (i : Int) - F < first) : ql = waitP ms (win F M first (b + (i : Int))) := by
  rw [hP, win_nil h, win_nil (by omega)]
theorem near_there {F M first c L : Int} (h0 : 0 ≤ first) (h1 : c ≤ L) (_h3 : 1 ≤ F) : ∀ x ∈ win F M first c, 0 ≤ x ∧ x < L := fun x hx => by
  have := win_mem.mp hx; omega
theorem near_therelen {F M first c : Int} (h : c - first ≤ 1000) : (win F M first c).length ≤ 1000 := Nat.le_trans (win_len F M first c) (by omega)
theorem near_queue {ms ql : List Int} {F M first c L : Int} (hP : ql = waitP ms (win F M first (c - 1))) (h0 : 0 ≤ first) (h1 : c ≤ L) (_h3 : 1 ≤ F) : ∀ x ∈ ql, 0 ≤ x ∧ x < L := fun x hx => by
  rw [hP] at hx
  have := win_mem.mp (waitP_sub hx); omega
theorem near_qlen {ms ql : List Int} {F M first c : Int} (hP : ql = waitP ms (win F M first (c - 1))) (h : c - first ≤ 1000) : ql.length ≤ 1000 := by
  rw [hP]; exact Nat.le_trans (waitP_len _ _) (Nat.le_trans (win_len F M first _) (by omega))
theorem near_grow {ms : List Int} {b : Int} {i : Nat} (hb : 0 ≤ b) (h : b + (i : Int) < ms.length) : ms.take (b.toNat + i) ++ [ms.getD (b + (i : Int)).toNat 0] = ms.take (b.toNat + (i + 1)) := by
  have e1 : b.toNat + (i + 1) = (b.toNat + i) + 1 := by omega
  have e2 : (b + (i : Int)).toNat = b.toNat + i := by omega
  rw [e1, e2, List.take_add_one, List.getD_eq_getElem?_getD, List.getElem?_eq_getElem (by omega)]; rfl
theorem near_stay {ms : List Int} {b : Int} {i : Nat} (hb : 0 ≤ b) (h : ¬ b + (i : Int) < ms.length) : ms.take (b.toNat + i) = ms.take (b.toNat + (i + 1)) := by
  rw [take_all (by omega), take_all (by omega)]
theorem near_next {ms : List Int} {F M first b : Int} {i : Nat} : waitP ms (win F M first (b + (i : Int))) = waitP ms (win F M first (b + ((i + 1 : Nat) : Int) - 1)) := by
  have e : b + ((i + 1 : Nat) : Int) - 1 = b + (i : Int) := by omega
  rw [e]

end Mine
open PySem PySem.Spec PySem.Calls PySem.W PyProof.Rows
namespace Mine
set_option synthInstance.maxSize 1 in
open_top hd for PySem.Challenge.rw_tk0114_01
section

/-- what a body hands back -/
def RetP (g : Heap) (L : Addr) (s₀ : Shared) (Post : Value → List (Addr × Obj) → Prop) (v : Value) (s' : Shared) : Prop :=
  ∃ h' tk' m' sub', s' = { s₀ with heap := h', toks := tk' } ∧ Fr g L h' m' ∧ News g L h' sub' ∧ Post v sub'

/-- what is owed at an end: the walk leaves it alone -/
structure Owed (P : Prop) : Prop where
  out : P

theorem RetP.owed {g : Heap} {L : Addr} {s₀ : Shared} {Post : Value → List (Addr × Obj) → Prop} {v : Value} {h' : Heap} {tk' : Nat} {m' : Str → Option Value} {news' : List (Addr × Obj)}
    (F : Fr g L h' m') (N : News g L h' news') (hp : Owed (∃ sub', (∀ p ∈ sub', p ∈ news') ∧ Post v sub')) : RetP g L s₀ Post v { s₀ with heap := h', toks := tk' } :=
  let ⟨sub', hs, hp⟩ := hp.out
  ⟨h', tk', m', sub', rfl, F, fun p hp => N p (hs p hp), hp⟩

theorem RetP.intro {g : Heap} {L : Addr} {s₀ : Shared} {Post : Value → List (Addr × Obj) → Prop} {v : Value} {h' : Heap} {tk' : Nat} {m' : Str → Option Value} {news' : List (Addr × Obj)}
    (F : Fr g L h' m') (N : News g L h' news') (sub' : List (Addr × Obj)) (hs : ∀ p ∈ sub', p ∈ news') (hp : Post v sub') : RetP g L s₀ Post v { s₀ with heap := h', toks := tk' } :=
  ⟨h', tk', m', sub', rfl, F, fun p hp => N p (hs p hp), hp⟩

def flv : Flow → Value
  | .ret v => v
  | _ => .none

/-- the state kept at an address -/
def At (h₀ : Heap) (L : Addr) (h' : Heap) (p : Addr × Obj) : Prop := h'.get? p.1 = some p.2 ∧ p.1 ≠ L ∧ h₀.get? p.1 = none

theorem exInt {a b : Int} {t : Tok} (h : a = b) : ∃ t', Value.int a t = Value.int b t' := ⟨t, by rw [h]⟩

section
variable {prog : Program} {w : World} {A₀ : Around} {s : Shared} {base h₀ : Heap} {outer : List Env} {L : Addr} {m mg mb : Str → Option Value} {news sub : List (Addr × Obj)} {K : Frag} {p : Program} {loose : List Str} {mean : ExcName → Option Value}
  {name qual : Str} {params : Arguments} {body : List Stmt} {scope : Scope} {dV kV doc pm cdv ct oc : Value} {an od : Option Addr} {osl : Array (Option Value)} {f : Addr} {vs : List Value} {binds : List (Str × Value)}
  {dp un : Nat} {gd : Option (List Code)} {cn : Str} {cs : Scope} {a : Addr} {ccd : Value} {cl : List (Str × Addr)} {Q E : Value → Shared → Prop}

theorem atOf {h h' : Heap} {sub0 sub : List (Addr × Obj)} {q : Addr} {o : Obj} (N : News h₀ L h news) (hsub : ∀ p ∈ sub0, p ∈ news) (hs : ∀ p ∈ sub0, At h₀ L h' p) (he : ∀ r ∈ sub, r ∈ sub0 ∨ r = (q, o))
    (hn : ∀ p ∈ news, (∀ r ∈ sub, p.1 ≠ r.1) → At h₀ L h' p) : ∀ p ∈ news, p.1 ≠ q → At h₀ L h' p := by
  intro p hp hq
  by_cases hr : ∃ r ∈ sub0, p.1 = r.1
  · obtain ⟨r, hr, e⟩ := hr
    have e1 := (N p hp).1
    have e2 := (N r (hsub r hr)).1
    rw [e, e2] at e1
    have e3 : p = r := Prod.ext e (Option.some.inj e1).symm
    rw [e3]; exact hs r hr
  · refine hn p hp fun r hr' e => ?_
    rcases he r hr' with h1 | h1
    · exact hr ⟨r, h1, e⟩
    · rw [h1] at e; exact hq e
theorem newsSame {h h' : Heap} (N : News h₀ L h news) (hsub : ∀ p ∈ sub, p ∈ news) (hs : ∀ p ∈ sub, At h₀ L h' p) (hn : ∀ p ∈ news, (∀ r ∈ sub, p.1 ≠ r.1) → At h₀ L h' p) : News h₀ L h' news := by
  intro p hp
  by_cases hr : ∃ r ∈ sub, p.1 = r.1
  · obtain ⟨r, hr, e⟩ := hr
    have e1 := (N p hp).1
    have e2 := (N r (hsub r hr)).1
    rw [e, e2] at e1
    have e3 : p = r := Prod.ext e (Option.some.inj e1).symm
    rw [e3]; exact hs r hr
  · exact hn p hp fun r hr' e => hr ⟨r, hr', e⟩
theorem newList_L {A : Around} {M : Model} {vs : List Value} (F : Fr h₀ L s.heap m) (N : News h₀ L s.heap news)
    (h : ∀ l h', Fr h₀ L h' m → News h₀ L h' ((l, listOf vs.toArray 0) :: news) → (∀ p ∈ (L, (default : Obj)) :: news, p.1 < l) → Q (.ref l) { s with heap := h' }) (hsz : vs.length ≤ sizeLine := by size_fits) : wpAny M A (newList vs) Q E s :=
  newList_N F N (fun h' F' N' => h _ h' F' N' fun p hp => by
    rcases List.mem_cons.mp hp with rfl | hp
    · exact F.ns.lt
    · exact Heap.lt_size (N p hp).1) hsz

theorem append_ints {A : Around} {D : Addr} {us : List Value} {ns : List Int} {n : Nat} {k : Int} {t : Tok} {news' : Obj → List (Addr × Obj)} (F : Fr h₀ L s.heap m) (N : News h₀ L s.heap news)
    (U : ∀ o', Upd D (listOf us.toArray n) o' news (news' o')) (hi : IntsAre us ns) (hl : ns.length ≤ 100000)
    (h : ∀ h' us' n', IntsAre us' (ns ++ [k]) → Fr h₀ L h' m → News h₀ L h' (news' (listOf us'.toArray n')) → Q .none { s with heap := h' }) : wpAny (model prog w) A (call (.builtin "list.append") [.ref D, .int k t]) Q E s := by
  refine append_K F N (U _) (fun h' F' N' => h h' (us ++ [.int k t]) (n + 1) (hi.append (.cons _ _ .nil)) F' (by rw [List.push_toArray] at N'; exact N')) ?_
  rw [List.size_toArray, hi.length, sizeLine_eq]
  omega

theorem item_bnd {A : Around} {value slice : PySem.Expr} {l : Addr} {vs : List Value} {n : Nat} {ns : List Int} {k : Int} {u : Tok} (N : News h₀ L s.heap news) (hm : (l, listOf vs.toArray n) ∈ news) (hi : IntsAre vs ns) (h0 : 0 ≤ k) (h1 : k < ns.length) (h2 : ns.length ≤ 100000)
    (h : ∀ t, Q (.int (ns.getD k.toNat 0) t) s)
    (hs : subscripted slice false (.ref l) (.int k u) = operate [.ref l, .int k u] (getItem (.ref l) (.int k u)) := by with_unfolding_all rfl) :
    wpAny (model prog w) A (subscriptTail value slice (.ref l) (.int k u)) Q E s := by
  have hl : s.heap.IsList l vs.toArray := News.isList N hm
  obtain ⟨t, ht⟩ := hi.get k.toNat (ns.getD k.toNat 0) (by
    rw [List.getD_eq_getElem?_getD, List.getElem?_eq_getElem (by omega)]; rfl)
  exact tail_any hl.typeIs slot_list_getitem.lookup (wpAny_getItem_list hl h0 (by omega) (by simpa using ht) (h t)) hs
theorem code_sub {A : Around} {env : Env} {R : Result → Shared → Prop} {args : Args} (Post : Addr → Value → List (Addr × Obj) → Prop)
    (B : Below A₀ base outer h₀) (F : Fr h₀ L s.heap m) (X₀ : K.In h₀) (N : News h₀ L s.heap news) (T : Top p loose mean mg mb h₀)
    (hA : A.frames = some (env :: outer)) (hf : env.frame = some L) (hke : env.scope.kind = .function)
    (ho : K.lookup f = some ⟨oc, od, .func (fnOf name qual params body scope dV kV doc pm an cdv ct), osl⟩) (hcd : codeIn K cdv qual = true) (hroom : A.depth < recursionLimit)
    (hbind : BindsTo s (fnOf name qual params body scope dV kV doc pm an cdv ct) args binds) (hloc : ∀ y ∈ binds, scope.names.lookup y.1 = some .local)
    (hsub : ∀ p ∈ sub, p ∈ news)
    (h : ∀ g L' h₁ tk, Fr g L' h₁ (fun y => binds.reverse.lookup y) → News g L' h₁ sub → Below A base (env :: outer) g → K.In g → Top p loose mean mg mb g → (∀ p ∈ news, p.1 < L') →
      wpAny (model prog w) (A.deeper (envOf qual scope L' f cdv)) (execs body (envOf qual scope L' f cdv))
        (fun fl s' => RetP g L' s (Post L') (flv fl) s')
        (fun _ _ => False)
        { s with heap := h₁, toks := tk })
    (ret : ∀ L' r sub' h' tk', (∀ p ∈ news, p.1 < L') → Fr h₀ L h' m → (∀ p ∈ sub', At h₀ L h' p) → (∀ p ∈ news, (∀ q ∈ sub, p.1 ≠ q.1) → At h₀ L h' p) → (∀ p ∈ sub', ∀ q ∈ news, (∀ r ∈ sub, q.1 ≠ r.1) → q.1 ≠ p.1) → Post L' r sub' → R (.ok (.ret r)) { s with heap := h', toks := tk' })
    (hcell : ∀ x ∈ scope.names, x.2 ≠ .cell) (hco : scope.isCoroutine = false := by rfl) (hgen : scope.isGenerator = false := by rfl) (hk : scope.kind = .function := by rfl) :
    codeAny (model prog w) A (.call (.ref f) args) R s := by
  have Ns : News h₀ L s.heap sub := fun p hp => N p (hsub p hp)
  have nm : ∀ b o, h₀.get? b = some o → b ∉ sub.map (·.1) := fun b o e q => by
    obtain ⟨p, hp, rfl⟩ := List.mem_map.mp q
    rw [(Ns p hp).2.2] at e; cases e
  have st : h₀.StaysIn (hideAll s.heap (sub.map (·.1))) := fun b o e => hideAll_get _ (F.keep b o e) (nm b o e)
  obtain ⟨oL, es, ep, hL, hLd, hLk, hLf⟩ := F.ns
  have nL : L ∉ sub.map (·.1) := fun q => by
    obtain ⟨p, hp, e⟩ := List.mem_map.mp q
    exact (Ns p hp).2.1 e
  have hLg := hideAll_get (sub.map (·.1)) hL nL
  have B₁ := pushX B F hf hke
  have BG : Below A base (env :: outer) (hideAll s.heap (sub.map (·.1))) := ⟨hA, fun b o e => st b o (B.stays b o e), funFrames_hideAll B₁.frames fun env' he b hb hf' => by
    cases he with
    | head => exact nL ((Option.some.inj (hf.symm.trans hf') : L = b) ▸ hb)
    | tail _ he =>
      obtain ⟨L₁, o₁, hf₁, ho₁⟩ := funFrames_in B.frames env' he
      rw [hf₁] at hf'
      exact nm L₁ o₁ ho₁ ((Option.some.inj hf' : L₁ = b) ▸ hb)⟩
  have lt : ∀ p ∈ news, p.1 < s.heap.objs.size := fun p hp => Heap.lt_size (N p hp).1
  refine codeAny_call_def (fd := fnOf name qual params body scope dV kV doc pm an cdv ct) (body := body) (binds := binds) hroom ((X₀.keeps F.keep) _ _ ho) rfl (T.nolimit.keeps F.keep) (codeRec_of (X₀.keeps F.keep) hcd) rfl hbind hcell hloc (fun h₁ hns hk₁ => ?_) hco hgen hk
  refine wpAny_mono (h _ s.heap.objs.size h₁ _ ⟨hns, fun b o e => hk₁ b o (of_hideAll _ e), Nat.le_of_eq (hideAll_size _ _)⟩
    (fun p hp => ⟨hk₁ _ _ (Ns p hp).1, Nat.ne_of_lt (Heap.lt_size (Ns p hp).1), hideAll_none _ (List.mem_map_of_mem hp)⟩) BG (X₀.keeps st) (T.keeps st) lt) (fun fl s' hl => ?_) fun _ _ y => y.elim
  obtain ⟨h', tk', m', sub', rfl, F', N', hp⟩ := hl
  have conv : ∀ (p : Addr × Obj), h'.get? p.1 = some p.2 → (hideAll s.heap (sub.map (·.1))).get? p.1 = none → At h₀ L h' p := fun p e1 e2 => by
    refine ⟨e1, fun q => ?_, ?_⟩
    · rw [q, hLg] at e2; cases e2
    · cases q : h₀.get? p.1 with
      | none => rfl
      | some o => rw [st _ _ q] at e2; cases e2
  have fin := ret s.heap.objs.size (flv fl) sub' h' tk' lt ⟨⟨oL, es, ep, F'.keep L oL hLg, hLd, hLk, hLf⟩, fun b o e => F'.keep b o (st b o e), F.above⟩
    (fun p hp => conv p (N' p hp).1 (N' p hp).2.2)
    (fun p hp hq => ⟨F'.keep _ _ (hideAll_get _ (N p hp).1 fun e => by
      obtain ⟨q, hq1, hq2⟩ := List.mem_map.mp e
      exact hq q hq1 hq2.symm), (N p hp).2⟩)
    (fun p hp q hq hr e => by
      have h1 := (N' p hp).2.2
      have h2 : (hideAll s.heap (sub.map (·.1))).get? q.1 = some q.2 := hideAll_get _ (N q hq).1 fun e => by
        obtain ⟨r, hr1, hr2⟩ := List.mem_map.mp e
        exact hr r hr1 hr2.symm
      rw [← e, h2] at h1; cases h1) hp
  cases fl <;> exact fin
theorem code_subC {A : Around} {env : Env} {R : Result → Shared → Prop} {args : Args} (Post : Addr → Value → List (Addr × Obj) → Prop)
    (B : Below A₀ base outer h₀) (F : Fr h₀ L s.heap m) (X₀ : K.In h₀) (N : News h₀ L s.heap news) (T : Top p loose mean mg mb h₀)
    (hA : A.frames = some (env :: outer)) (hf : env.frame = some L) (hke : env.scope.kind = .function)
    (ho : K.lookup f = some ⟨oc, od, .func (fnOf name qual params body scope dV kV doc pm an cdv ct), osl⟩) (hcd : codeIn K cdv qual = true) (hroom : A.depth < recursionLimit)
    (hbind : BindsTo s (fnOf name qual params body scope dV kV doc pm an cdv ct) args binds) (hkind : (binds.all fun y => scope.names.lookup y.1 == some .local || scope.names.lookup y.1 == some .cell) = true) (hnd : ((cellsFrom 0 scope.names []).map (·.1)).Nodup)
    (hsub : ∀ p ∈ sub, p ∈ news)
    (h : ∀ g L' h₁ tk cells, Fr g L' h₁ (bindL (envOfC qual scope L' f cdv).kindOf binds fun _ => none) → News g L' h₁ (cells ++ sub) → CellsAre (bindC (envOfC qual scope L' f cdv).kindOf binds fun _ => none) (cellsFrom (L' + 1) scope.names []) cells → (∀ p ∈ sub, p.1 < L') → Below A base (env :: outer) g → K.In g → Top p loose mean mg mb g → (∀ p ∈ news, p.1 < L') →
      wpAny (model prog w) (A.deeper (envOfC qual scope L' f cdv)) (execs body (envOfC qual scope L' f cdv))
        (fun fl s' => RetP g L' s (Post L') (flv fl) s')
        (fun _ _ => False)
        { s with heap := h₁, toks := tk })
    (ret : ∀ L' r sub' h' tk', (∀ p ∈ news, p.1 < L') → Fr h₀ L h' m → (∀ p ∈ sub', At h₀ L h' p) → (∀ p ∈ news, (∀ q ∈ sub, p.1 ≠ q.1) → At h₀ L h' p) → (∀ p ∈ sub', ∀ q ∈ news, (∀ r ∈ sub, q.1 ≠ r.1) → q.1 ≠ p.1) → Post L' r sub' → R (.ok (.ret r)) { s with heap := h', toks := tk' })
    (hco : scope.isCoroutine = false := by rfl) (hgen : scope.isGenerator = false := by rfl) (hk : scope.kind = .function := by rfl) :
    codeAny (model prog w) A (.call (.ref f) args) R s := by
  have Ns : News h₀ L s.heap sub := fun p hp => N p (hsub p hp)
  have nm : ∀ b o, h₀.get? b = some o → b ∉ sub.map (·.1) := fun b o e q => by
    obtain ⟨p, hp, rfl⟩ := List.mem_map.mp q
    rw [(Ns p hp).2.2] at e; cases e
  have st : h₀.StaysIn (hideAll s.heap (sub.map (·.1))) := fun b o e => hideAll_get _ (F.keep b o e) (nm b o e)
  obtain ⟨oL, es, ep, hL, hLd, hLk, hLf⟩ := F.ns
  have nL : L ∉ sub.map (·.1) := fun q => by
    obtain ⟨p, hp, e⟩ := List.mem_map.mp q
    exact (Ns p hp).2.1 e
  have hLg := hideAll_get (sub.map (·.1)) hL nL
  have B₁ := pushX B F hf hke
  have BG : Below A base (env :: outer) (hideAll s.heap (sub.map (·.1))) := ⟨hA, fun b o e => st b o (B.stays b o e), funFrames_hideAll B₁.frames fun env' he b hb hf' => by
    cases he with
    | head => exact nL ((Option.some.inj (hf.symm.trans hf') : L = b) ▸ hb)
    | tail _ he =>
      obtain ⟨L₁, o₁, hf₁, ho₁⟩ := funFrames_in B.frames env' he
      rw [hf₁] at hf'
      exact nm L₁ o₁ ho₁ ((Option.some.inj hf' : L₁ = b) ▸ hb)⟩
  have lt : ∀ p ∈ news, p.1 < s.heap.objs.size := fun p hp => Heap.lt_size (N p hp).1
  refine codeAny_call_function (fd := fnOf name qual params body scope dV kV doc pm an cdv ct) hroom ((X₀.keeps F.keep) _ _ ho) rfl hco hgen rfl (codeRec_of (X₀.keeps F.keep) hcd) (hbind _ _ _ _ ?_)
  refine wpAny_newFunctionEnv_cells hk (kindsX hkind _) fun env' he s' x => ?_
  subst he
  refine ⟨(T.nolimit.keeps F.keep).keeps x.toInCall.keep, codeAny_func ?_⟩
  obtain ⟨h₁, tk, rfl, _⟩ := x.done
  have hk₁ := x.toInCall.keep
  obtain ⟨cells, NC, Y⟩ := Cl.news (h₀ := s.heap) (Nat.le_refl _) fun n c hm => ⟨x.cell n c (lookup_of_mem_nodup (cellsFrom_names scope.names 0 (s.heap.objs.size + 1) [] [] rfl ▸ hnd) hm), x.above n c hm⟩
  refine wpAny_mono (h _ s.heap.objs.size h₁ tk cells ⟨x.toInCall.ns, fun b o e => hk₁ b o (of_hideAll _ e), Nat.le_of_eq (hideAll_size _ _)⟩ (fun p hp => ?_) Y (fun p hp => lt p (hsub p hp)) BG (X₀.keeps st) (T.keeps st) lt) (fun fl s' hl => ?_) fun _ _ y => y.elim
  · rcases List.mem_append.mp hp with hp | hp
    · refine ⟨(NC p hp).1, (NC p hp).2.1, ?_⟩
      cases q : (hideAll s.heap (sub.map (·.1))).get? p.1 with
      | none => rfl
      | some o => have := of_hideAll _ q; rw [(NC p hp).2.2] at this; cases this
    · exact ⟨hk₁ _ _ (Ns p hp).1, Nat.ne_of_lt (Heap.lt_size (Ns p hp).1), hideAll_none _ (List.mem_map_of_mem hp)⟩
  obtain ⟨h', tk', m', sub', rfl, F', N', hp⟩ := hl
  have conv : ∀ (p : Addr × Obj), h'.get? p.1 = some p.2 → (hideAll s.heap (sub.map (·.1))).get? p.1 = none → At h₀ L h' p := fun p e1 e2 => by
    refine ⟨e1, fun q => ?_, ?_⟩
    · rw [q, hLg] at e2; cases e2
    · cases q : h₀.get? p.1 with
      | none => rfl
      | some o => rw [st _ _ q] at e2; cases e2
  have fin := ret s.heap.objs.size (flv fl) sub' h' tk' lt ⟨⟨oL, es, ep, F'.keep L oL hLg, hLd, hLk, hLf⟩, fun b o e => F'.keep b o (st b o e), F.above⟩
    (fun p hp => conv p (N' p hp).1 (N' p hp).2.2)
    (fun p hp hq => ⟨F'.keep _ _ (hideAll_get _ (N p hp).1 fun e => by
      obtain ⟨q, hq1, hq2⟩ := List.mem_map.mp e
      exact hq q hq1 hq2.symm), (N p hp).2⟩)
    (fun p hp q hq hr e => by
      have h1 := (N' p hp).2.2
      have h2 : (hideAll s.heap (sub.map (·.1))).get? q.1 = some q.2 := hideAll_get _ (N q hq).1 fun e => by
        obtain ⟨r, hr1, hr2⟩ := List.mem_map.mp e
        exact hr r hr1 hr2.symm
      rw [← e, h2] at h1; cases h1) hp
  cases fl <;> exact fin
end

end
section
/-- no iterator of a list or a range -/
def NoIter (o : Obj) : Prop := ∀ vs, o.data ≠ .fields vs
def FreeEnd {σ : Type} (h₀ : Heap) (L : Addr) (Led : σ → List (Addr × Obj)) (ps : σ → List (Str × Value)) (Facts : σ → Prop) (x : Str) (stored : List Str) (m₀ : Str → Option Value) (P : σ → Prop) (own : List (Addr × Obj)) (s₁ s₂ : Shared) : Prop :=
  ∃ (c : σ) (h' : Heap) (tk : Nat) (m' : Str → Option Value) (news' : List (Addr × Obj)), s₂ = { s₁ with heap := h', toks := tk } ∧ Fr h₀ L h' m' ∧ News h₀ L h' news' ∧ (∀ p ∈ Led c, p ∈ news') ∧ (∀ p ∈ own, p ∈ news') ∧ (∀ p ∈ Led c, NoIter p.2 ∨ ∀ q ∈ own, q.1 ≠ p.1) ∧
    Facts c ∧ (∀ p ∈ ps c, m' p.1 = some p.2) ∧ (∀ z, z ≠ x → (∀ p ∈ ps c, z ≠ p.1) → stored.contains z = false → m' z = m₀ z) ∧ P c
def FreePost {σ : Type} (h₀ : Heap) (L : Addr) (Led : σ → List (Addr × Obj)) (ps : σ → List (Str × Value)) (Facts : σ → Prop) (x : Str) (stored : List Str) (m₀ : Str → Option Value) (P : σ → Prop) (own : List (Addr × Obj)) (s₁ : Shared) (Q : Flow → Shared → Prop) (f : Flow) (s₂ : Shared) : Prop :=
  match f with
  | .ret v => Q (.ret v) s₂
  | .brk => Q .next s₂
  | _ => FreeEnd h₀ L Led ps Facts x stored m₀ P own s₁ s₂
theorem free_endO {σ : Type} {h₀ : Heap} {L : Addr} {Led : σ → List (Addr × Obj)} {ps : σ → List (Str × Value)} {Facts : σ → Prop} {x : Str} {stored : List Str} {m₀ m' : Str → Option Value} {P : σ → Prop} {own news' : List (Addr × Obj)} {s₁ : Shared} {h' : Heap} {tk : Nat} (c : σ)
    (F : Fr h₀ L h' m') (N : News h₀ L h' news') (hn : ∀ p ∈ Led c, p ∈ news') (ho : ∀ p ∈ own, p ∈ news') (hi : ∀ p ∈ Led c, NoIter p.2 ∨ ∀ q ∈ own, q.1 ≠ p.1) (hf : Facts c) (hk : ∀ p ∈ ps c, m' p.1 = some p.2) (hr : ∀ z, z ≠ x → (∀ p ∈ ps c, z ≠ p.1) → stored.contains z = false → m' z = m₀ z) (hp : P c) :
    FreeEnd h₀ L Led ps Facts x stored m₀ P own s₁ { s₁ with heap := h', toks := tk } := ⟨c, h', tk, m', news', rfl, F, N, hn, ho, hi, hf, hk, hr, hp⟩
theorem free_end {σ : Type} {h₀ : Heap} {L : Addr} {Led : σ → List (Addr × Obj)} {ps : σ → List (Str × Value)} {Facts : σ → Prop} {x : Str} {stored : List Str} {m₀ m' : Str → Option Value} {P : σ → Prop} {own news' : List (Addr × Obj)} {s₁ : Shared} {h' : Heap} {tk : Nat} (c : σ)
    (F : Fr h₀ L h' m') (N : News h₀ L h' news') (hn : ∀ p ∈ Led c, p ∈ news') (ho : ∀ p ∈ own, p ∈ news') (hi : ∀ p ∈ Led c, NoIter p.2) (hf : Facts c) (hk : ∀ p ∈ ps c, m' p.1 = some p.2) (hr : ∀ z, z ≠ x → (∀ p ∈ ps c, z ≠ p.1) → stored.contains z = false → m' z = m₀ z) (hp : P c) :
    FreeEnd h₀ L Led ps Facts x stored m₀ P own s₁ { s₁ with heap := h', toks := tk } := ⟨c, h', tk, m', news', rfl, F, N, hn, ho, fun p hp => .inl (hi p hp), hf, hk, hr, hp⟩
section
variable {prog : Program} {w : World} {A : Around} {E : Value → Shared → Prop} {Q : Flow → Shared → Prop} {s : Shared} {env : Env} {h₀ : Heap} {x : Str} {body : List Stmt}
theorem loop_free {σ : Type} {I : Addr} {fp : List Addr} {n : Nat} {Pv : Nat → Value → Prop} {St : Nat → Heap → Prop} {m₀ : Str → Option Value} (Led : σ → List (Addr × Obj)) (ps : σ → List (Str × Value)) (Facts : σ → Prop) (stored : List Str) (P : Nat → σ → Prop) (c₀ : σ)
    (W : Walks prog w A I fp [I] n Pv St) (hcl : ∀ i h, St i h → ∃ o, h.get? I = some o ∧ ¬ NoIter o) (hLf : env.locals ∉ fp) (hI : h₀.get? I = none) (hIf : I ∈ fp) (hfp : ∀ b ∈ fp, b = I ∨ (∃ o, h₀.get? b = some o) ∨ ∃ o, ∀ c, (b, o) ∈ Led c)
    (hst : St 0 s.heap) (F : Fr h₀ env.locals s.heap m₀) (N : News h₀ env.locals s.heap (Led c₀)) (hni : ∀ p ∈ Led c₀, p.1 ≠ I) (hf : Facts c₀) (hk : ∀ p ∈ ps c₀, m₀ p.1 = some p.2) (hp : P 0 c₀)
    (turn : ∀ (c : σ) i v (u : Str → Option Value) h tk own, i < n → Pv i v → OwnOff own ((Led c).map (·.1)) → Facts c → P i c →
      Fr h₀ env.locals h (fun y => if y = x then some v else kstB (fun z => if stored.contains z then u z else m₀ z) (ps c) y) → News h₀ env.locals h (Led c ++ own) →
      wpAny (model prog w) A (execs body env) (FreePost h₀ env.locals Led ps Facts x stored m₀ (P (i + 1)) own { s with heap := h, toks := tk } Q) E { s with heap := h, toks := tk })
    (done : ∀ (c : σ) (u : Str → Option Value) h tk, Facts c → P n c → Fr h₀ env.locals h (fun y => if y = x then u y else kstB (fun z => if stored.contains z then u z else m₀ z) (ps c) y) → News h₀ env.locals h (Led c) → Q .next { s with heap := h, toks := tk }) :
    LoopAtV prog w A h₀ env x body Q E (.ref I) s := by
  refine ⟨I, fp, [I], n, Pv, St, m₀, Led c₀, (fun i m nx => ∃ c, nx = Led c ∧ Facts c ∧ (∀ p ∈ ps c, m p.1 = some p.2) ∧ (∀ z, z ≠ x → (∀ p ∈ ps c, z ≠ p.1) → stored.contains z = false → m z = m₀ z) ∧ P i c), rfl, W, hLf, ?_, ?_, hst, F, N, ⟨c₀, rfl, hf, hk, fun _ _ _ _ => rfl, hp⟩, ?_, ?_⟩
  · intro b hb; rw [List.mem_singleton.mp hb]; exact hI
  · intro p hp hq; exact hni p hp (List.mem_singleton.mp hq)
  · rintro i v m₁ nx s₁ own ⟨h, tk, rfl⟩ hin hv ⟨c, rfl, hf', h1, h2, hp'⟩ hoff hown hget hfpo st F₁ N₁
    obtain ⟨oI, hoI, hcI⟩ := hcl _ _ st
    have hmI : (I, oI) ∈ own := hfpo I hIf hI oI hoI
    let own' := own.filter fun p => decide (p.1 = I)
    have hmI' : (I, oI) ∈ own' := List.mem_filter.mpr ⟨hmI, by simp⟩
    have hoff' : ∀ p ∈ Led c, p.1 ≠ I := fun p hp e => hoff p hp (by rw [e]; exact List.mem_singleton.mpr rfl)
    have hsep : OwnOff own' ((Led c).map (·.1)) := by
      intro p hp b hb e
      obtain ⟨q, hq, rfl⟩ := List.mem_map.mp hb
      have h1 : p.1 = I := by simpa using (List.mem_filter.mp hp).2
      exact hoff' q hq (by rw [← e, h1])
    have N₂ : News h₀ env.locals h (Led c ++ own') := fun p hp => N₁ p ((List.mem_append.mp hp).elim (fun h => List.mem_append.mpr (.inr h)) fun h => List.mem_append.mpr (.inl ((List.mem_filter.mp h).1)))
    refine wpAny_mono (turn c i v m₁ h tk own' hin hv hsep hf' hp' (kst_fr h1 h2 F₁) N₂) (fun f s₂ p => ?_) fun _ _ e => e
    have fin : FreeEnd h₀ env.locals Led ps Facts x stored m₀ (P (i + 1)) own' { s with heap := h, toks := tk } s₂ →
        LoopStepU h₀ env.locals [I] own (fun m nx => ∃ c, nx = Led c ∧ Facts c ∧ (∀ p ∈ ps c, m p.1 = some p.2) ∧ (∀ z, z ≠ x → (∀ p ∈ ps c, z ≠ p.1) → stored.contains z = false → m z = m₀ z) ∧ P (i + 1) c) { s with heap := h, toks := tk } .next s₂ := by
      rintro ⟨c', h', tk', m', news', e, F', N', hn, ho, hi, hf9, hk9, hr9, hp9⟩
      refine ⟨rfl, h', tk', m', Led c', e, F', fun p hp => ?_, fun p hp hq => ?_, c', rfl, hf9, hk9, hr9, hp9⟩
      · rcases List.mem_append.mp hp with h3 | h3
        · by_cases hpI : p.1 = I
          · exact N' p (ho p (List.mem_filter.mpr ⟨h3, by simpa using hpI⟩))
          · have hpf := hown p h3
            have NL := N₁ p (List.mem_append.mpr (.inl h3))
            rcases hfp p.1 hpf with h4 | ⟨o, h4⟩ | ⟨o, h4⟩
            · exact absurd h4 hpI
            · rw [NL.2.2] at h4; cases h4
            · have e1 := (N₁ _ (List.mem_append.mpr (.inr (h4 c)))).1
              have e2 : p = (p.1, o) := Prod.ext rfl (by rw [NL.1] at e1; exact Option.some.inj e1)
              have e3 := N' _ (hn _ (h4 c'))
              rw [← e2] at e3; exact e3
        · exact N' p (hn p h3)
      · have hq' := List.mem_singleton.mp hq
        have e1 := (N' p (hn p hp)).1
        have e2 := (N' _ (ho _ hmI')).1
        rw [hq', e2] at e1
        have e3 : oI = p.2 := Option.some.inj e1
        exact (hi p hp).elim (fun g => hcI (e3 ▸ g)) fun g => g _ hmI' hq'.symm
    cases f with
    | ret v => exact p
    | brk => exact p
    | next => exact fin p
    | cont => exact fin p
  · rintro h' tk m' news' F' N' _ ⟨c, rfl, hf', h1, h2, hp'⟩
    exact done c m' h' tk hf' hp' (kst_frOut h1 h2 F') N'

/-- over a list of the ledger; its items as they are -/
theorem free_list {σ : Type} {l : Addr} {vs : List Value} {nn : Nat} {m₀ : Str → Option Value} (Led : σ → List (Addr × Obj)) (ps : σ → List (Str × Value)) (Facts : σ → Prop) (stored : List Str) (P : Nat → σ → Prop) (c₀ : σ)
    (hh : A.handled = none) (hl : ∀ c, (l, listOf vs.toArray nn) ∈ Led c) (F : Fr h₀ env.locals s.heap m₀) (N : News h₀ env.locals s.heap (Led c₀)) (hf : Facts c₀) (hk : ∀ p ∈ ps c₀, m₀ p.1 = some p.2) (hp : P 0 c₀)
    (turn : ∀ (c : σ) i v (u : Str → Option Value) h tk own, vs[i]? = some v → OwnOff own ((Led c).map (·.1)) → Facts c → P i c →
      Fr h₀ env.locals h (fun y => if y = x then some v else kstB (fun z => if stored.contains z then u z else m₀ z) (ps c) y) → News h₀ env.locals h (Led c ++ own) →
      wpAny (model prog w) A (execs body env) (FreePost h₀ env.locals Led ps Facts x stored m₀ (P (i + 1)) own { s with heap := h, toks := tk } Q) E { s with heap := h, toks := tk })
    (done : ∀ (c : σ) (u : Str → Option Value) h tk, Facts c → P vs.length c → Fr h₀ env.locals h (fun y => if y = x then u y else kstB (fun z => if stored.contains z then u z else m₀ z) (ps c) y) → News h₀ env.locals h (Led c) → Q .next { s with heap := h, toks := tk }) :
    wpAny (model prog w) A (pyIter (.ref l)) (fun it s₂ => LoopAtV prog w A h₀ env x body Q E it s₂) E s := by
  have hol : s.heap.get? l = some (listOf vs.toArray nn) := (N _ (hl c₀)).1
  have hls : s.heap.IsList l vs.toArray := ⟨_, hol, rfl, nn, rfl⟩
  have hne : l ≠ s.heap.objs.size := Nat.ne_of_lt (Heap.lt_size hol)
  refine wpAny_pyIter_list hls ?_
  have W := Walks.list (prog := prog) (w := w) hh s.heap.objs.size l hne vs.toArray
  have hlen : vs.toArray.size = vs.length := List.size_toArray ..
  rw [hlen] at W
  refine loop_free Led ps Facts stored P c₀ W ?_ ?_ (next_is_new F) (.head _) ?_ ⟨⟨_, Heap.get?_push_size _ rfl, rfl, rfl⟩, hls.at fun o e => Heap.get?_push_of_some _ e⟩ (F.push _) (fun p hp => ⟨Heap.get?_push_of_some _ (N p hp).1, (N p hp).2⟩) (fun p hp e => ?_) hf hk hp ?_ ?_
  · rintro i h ⟨⟨o, ho, _, hd⟩, _⟩
    exact ⟨o, ho, fun q => q _ hd⟩
  · intro hm
    rcases List.mem_cons.mp hm with e | hm
    · exact absurd F.ns.lt (e ▸ Nat.lt_irrefl _)
    · exact (N _ (hl c₀)).2.1 ((List.mem_singleton.mp hm).symm)
  · intro b hb
    rcases List.mem_cons.mp hb with e | hb
    · exact .inl e
    · rw [List.mem_singleton.mp hb]; exact .inr (.inr ⟨_, hl⟩)
  · exact absurd (Heap.lt_size (N p hp).1) (by rw [e]; exact Nat.lt_irrefl _)
  · intro c i v u h tk own _ hv hoff hf' hp' F' N'
    exact turn c i v u h tk own (by simpa using hv) hoff hf' hp' F' N'
  · exact done

/-- over a range by ones -/
theorem free_range {σ : Type} {r : Addr} {a₀ b₀ : Int} {t₀ u₀ v₀ : Tok} {n : Nat} {m₀ : Str → Option Value} (Led : σ → List (Addr × Obj)) (ps : σ → List (Str × Value)) (Facts : σ → Prop) (stored : List Str) (P : Nat → σ → Prop) (c₀ : σ)
    (hh : A.handled = none) (hr : IsRange s.heap r a₀ b₀ 1 t₀ u₀ v₀) (hsmall : Builtin.Range.small a₀ b₀ 1 = true) (hn : Builtin.Range.rangeSize a₀ b₀ 1 = (n : Int)) (F : Fr h₀ env.locals s.heap m₀) (N : News h₀ env.locals s.heap (Led c₀)) (hf : Facts c₀) (hk : ∀ p ∈ ps c₀, m₀ p.1 = some p.2) (hp : P 0 c₀)
    (turn : ∀ (c : σ) i t (u : Str → Option Value) h tk own, i < n → OwnOff own ((Led c).map (·.1)) → Facts c → P i c →
      Fr h₀ env.locals h (fun y => if y = x then some (.int (a₀ + (i : Int)) t) else kstB (fun z => if stored.contains z then u z else m₀ z) (ps c) y) → News h₀ env.locals h (Led c ++ own) →
      wpAny (model prog w) A (execs body env) (FreePost h₀ env.locals Led ps Facts x stored m₀ (P (i + 1)) own { s with heap := h, toks := tk } Q) E { s with heap := h, toks := tk })
    (done : ∀ (c : σ) (u : Str → Option Value) h tk, Facts c → P n c → Fr h₀ env.locals h (fun y => if y = x then u y else kstB (fun z => if stored.contains z then u z else m₀ z) (ps c) y) → News h₀ env.locals h (Led c) → Q .next { s with heap := h, toks := tk }) :
    wpAny (model prog w) A (pyIter (.ref r)) (fun it s₂ => LoopAtV prog w A h₀ env x body Q E it s₂) E s := by
  refine wpAny_pyIter_range hr hsmall ?_
  have W : Walks prog w A s.heap.objs.size [s.heap.objs.size] [s.heap.objs.size] n (fun i v => i < n ∧ ∃ t, v = .int (a₀ + i * 1) t)
      (fun i h => IsRangeIter h s.heap.objs.size (a₀ + (i : Nat) * 1) ((n : Int) - (i : Nat)) 1) := (Walks.range hh _ a₀ 1 n).bound
  refine loop_free Led ps Facts stored P c₀ W ?_ ?_ (next_is_new F) (.head _) ?_ (by show IsRangeIter _ _ _ _ _; rw [hn]; simpa using Heap.get?_push_size _ rfl) (F.push _) (fun p hp => ⟨Heap.get?_push_of_some _ (N p hp).1, (N p hp).2⟩) (fun p hp e => ?_) hf hk hp ?_ ?_
  · intro i h ho
    exact ⟨_, ho, fun q => q _ rfl⟩
  · intro hm
    exact absurd F.ns.lt ((List.mem_singleton.mp hm) ▸ Nat.lt_irrefl _)
  · intro b hb
    exact .inl (List.mem_singleton.mp hb)
  · exact absurd (Heap.lt_size (N p hp).1) (by rw [e]; exact Nat.lt_irrefl _)
  · rintro c i v u h tk own hi ⟨_, t, rfl⟩ hoff hf' hp' F' N'
    have e1 : a₀ + (i : Int) * 1 = a₀ + (i : Int) := by omega
    rw [e1] at F'
    exact turn c i t u h tk own hi hoff hf' hp' F' N'
  · exact done
end
theorem noIter_list (its : Array Value) (n : Nat) : NoIter (listOf its n) := fun _ h => nomatch h
theorem noIter_inst (C dx : Addr) : NoIter (instObj C dx) := fun _ h => nomatch h
theorem noIter_dict (es : List DictEntry) (n : Nat) : NoIter (dictOf es n) := fun _ h => nomatch h
theorem noIter_tup (its : Array Value) (n : Nat) : NoIter { cls := .type "tuple", data := .seq its n } := fun _ h => nomatch h
theorem noIter_cell {o : Obj} {v : Option Value} (h : o.data = .cell v) : NoIter o := fun _ q => by rw [h] at q; cases q
section
variable {prog : Program} {w : World} {A : Around} {E : Value → Shared → Prop} {Q : Flow → Shared → Prop} {s : Shared} {env : Env} {h₀ : Heap} {body : List Stmt}
/-- what is left of a for behind its iterator -/
def ForTail (prog : Program) (w : World) (A : Around) (env : Env) (target : PySem.Expr) (body : List Stmt) (Q : Flow → Shared → Prop) (E : Value → Shared → Prop) (it : Value) (s₂ : Shared) : Prop :=
  codeAny (model prog w) A (.forLoop target it body [] env) (fun r s' => match r with | .ok f => Q f s' | .error e => cameBackBy (model prog w) A env E e s') s₂
theorem For_tail {target iter : PySem.Expr} {pos : Pos} (h : wpAny (model prog w) A (eval iter env) (fun xv s₁ => wpAny (model prog w) A (pyIter xv) (fun it s₂ => ForTail prog w A env target body Q E it s₂) E s₁) E s)
    (hs : ∀ x, foldedSetIterable iter env x = pure x := by intro _; rfl) : wpAny (model prog w) A (exec (.For target iter body [] pos) env) Q E s := wpAny_For h hs
/-- over a range by ones, whatever the target (a cell) -/
theorem for_rangeG {σ : Type} {target : PySem.Expr} {r : Addr} {a₀ b₀ : Int} {t₀ u₀ v₀ : Tok} {n : Nat} {m₀ : Str → Option Value} (Led : σ → List (Addr × Obj)) (ps : σ → List (Str × Value)) (Facts : σ → Prop) (stored : List Str) (P : Nat → σ → Prop) (c₀ : σ)
    (hh : A.handled = none) (hr : IsRange s.heap r a₀ b₀ 1 t₀ u₀ v₀) (hsmall : Builtin.Range.small a₀ b₀ 1 = true) (hn : Builtin.Range.rangeSize a₀ b₀ 1 = (n : Int)) (F : Fr h₀ env.locals s.heap m₀) (N : News h₀ env.locals s.heap (Led c₀)) (hf : Facts c₀) (hk : ∀ p ∈ ps c₀, m₀ p.1 = some p.2) (hp : P 0 c₀)
    (hE : ∀ e s', ¬ E e s')
    (turn : ∀ (c : σ) i t (u : Str → Option Value) h tk own, i < n → OwnOff own ((Led c).map (·.1)) → Facts c → P i c →
      Fr h₀ env.locals h (fun y => if y = PySem.Str.ofString "" then u y else kstB (fun z => if stored.contains z then u z else m₀ z) (ps c) y) → News h₀ env.locals h (Led c ++ own) →
      wpAny (model prog w) A (assign target env (.int (a₀ + (i : Int)) t)) (fun _ s₁ => wpAny (model prog w) A (execs body env) (FreePost h₀ env.locals Led ps Facts (PySem.Str.ofString "") stored m₀ (P (i + 1)) own { s with heap := h, toks := tk } Q) E s₁) E { s with heap := h, toks := tk })
    (done : ∀ (c : σ) (u : Str → Option Value) h tk, Facts c → P n c → Fr h₀ env.locals h (fun y => if y = PySem.Str.ofString "" then u y else kstB (fun z => if stored.contains z then u z else m₀ z) (ps c) y) → News h₀ env.locals h (Led c) → Q .next { s with heap := h, toks := tk })
    (ht : ∀ v I, letOwnedTupleGo target (.ref I) v = pure () := by intro _ _; rfl) :
    wpAny (model prog w) A (pyIter (.ref r)) (fun it s₂ => ForTail prog w A env target body Q E it s₂) E s := by
  refine wpAny_pyIter_range hr hsmall ?_
  have W : Walks prog w A s.heap.objs.size [s.heap.objs.size] [s.heap.objs.size] n (fun i v => i < n ∧ ∃ t, v = .int (a₀ + i * 1) t)
      (fun i h => IsRangeIter h s.heap.objs.size (a₀ + (i : Nat) * 1) ((n : Int) - (i : Nat)) 1) := (Walks.range hh _ a₀ 1 n).bound
  have hI0 : h₀.get? s.heap.objs.size = none := next_is_new F
  have hIL : env.locals ≠ s.heap.objs.size := Nat.ne_of_lt F.ns.lt
  unfold ForTail
  refine codeAny_forLoop
    (fun k s' => ∃ i c h' tk m', k = n + 1 - i ∧ i ≤ n ∧ s' = { s with heap := h', toks := tk } ∧ IsRangeIter h' s.heap.objs.size (a₀ + (i : Nat) * 1) ((n : Int) - (i : Nat)) 1 ∧ Fr h₀ env.locals h' m' ∧ News h₀ env.locals h' (Led c) ∧ (∀ p ∈ Led c, p.1 ≠ s.heap.objs.size) ∧
      Facts c ∧ (∀ p ∈ ps c, m' p.1 = some p.2) ∧ (∀ z, z ≠ PySem.Str.ofString "" → (∀ p ∈ ps c, z ≠ p.1) → stored.contains z = false → m' z = m₀ z) ∧ P i c) ?_ (n + 1)
    ⟨0, c₀, _, s.toks, m₀, rfl, Nat.zero_le _, rfl, (by rw [hn]; simpa using Heap.get?_push_size _ rfl), F.push _, (fun p hp => ⟨Heap.get?_push_of_some _ (N p hp).1, (N p hp).2⟩), (fun p hp e => absurd (Heap.lt_size (N p hp).1) (by rw [e]; exact Nat.lt_irrefl _)), hf, hk, fun _ _ _ _ => rfl, hp⟩ (fun v => ht v _)
  rintro k s' ⟨i, c, h', tk', m', rfl, hi, rfl, hst, F', N', hni, hf', h1, h2, hp'⟩
  have next : ∀ h₁ : Heap, (∀ b o, b ∉ [s.heap.objs.size] → h'.get? b = some o → h₁.get? b = some o) → Fr h₀ env.locals h₁ m' ∧ News h₀ env.locals h₁ (Led c) := fun h₁ hk₁ =>
    ⟨⟨F'.ns.at' fun o e => hk₁ _ o (fun q => hIL (List.mem_singleton.mp q)) e, fun b o e => hk₁ b o (fun q => by rw [List.mem_singleton.mp q, hI0] at e; cases e) (F'.keep b o e), F'.above⟩, fun p hp => ⟨hk₁ _ _ (fun q => hni p hp (List.mem_singleton.mp q)) (N' p hp).1, (N' p hp).2⟩⟩
  by_cases hlt : i < n
  · refine W.item i _ _ _ hlt hst fun v h₁ tk₁ hP hst₁ hk₁ => ?_
    obtain ⟨_, t, rfl⟩ := hP
    obtain ⟨F₁, N₁⟩ := next h₁ hk₁
    have e1 : a₀ + (i : Int) * 1 = a₀ + (i : Int) := by omega
    rw [e1]
    obtain ⟨oI, hoI, hni9, hit9⟩ : ∃ oI, h₁.get? s.heap.objs.size = some oI ∧ ¬ NoIter oI ∧ (∀ h3 : Heap, h3.get? s.heap.objs.size = some oI → IsRangeIter h3 s.heap.objs.size (a₀ + ((i + 1 : Nat) : Int) * 1) ((n : Int) - ((i + 1 : Nat) : Int)) 1) := ⟨_, hst₁, fun q => q _ rfl, fun h3 e => e⟩
    refine wpAny_mono (turn c i t m' h₁ tk₁ [(s.heap.objs.size, oI)] hlt ?_ hf' hp' (kst_frOut h1 h2 F₁) (fun p hp => ?_)) (fun _ s₂ hb => wpAny_mono hb (fun f s₃ h₃ => ?_) fun e s' he => (hE e s' he).elim) fun e s' he => (hE e s' he).elim
    · intro p hp b hb e
      rw [List.mem_singleton.mp hp] at e
      obtain ⟨q, hq, rfl⟩ := List.mem_map.mp hb
      exact hni q hq e.symm
    · rcases List.mem_append.mp hp with hp | hp
      · exact N₁ p hp
      · rw [List.mem_singleton.mp hp]
        exact ⟨hoI, fun q => hIL q.symm, hI0⟩
    · have fin : FreeEnd h₀ env.locals Led ps Facts (PySem.Str.ofString "") stored m₀ (P (i + 1)) [(s.heap.objs.size, oI)] { s with heap := h₁, toks := tk₁ } s₃ → ∃ m, m < n + 1 - i ∧ ∃ i c h' tk m', m = n + 1 - i ∧ i ≤ n ∧ s₃ = { s with heap := h', toks := tk } ∧ IsRangeIter h' s.heap.objs.size (a₀ + (i : Nat) * 1) ((n : Int) - (i : Nat)) 1 ∧ Fr h₀ env.locals h' m' ∧ News h₀ env.locals h' (Led c) ∧ (∀ p ∈ Led c, p.1 ≠ s.heap.objs.size) ∧
          Facts c ∧ (∀ p ∈ ps c, m' p.1 = some p.2) ∧ (∀ z, z ≠ PySem.Str.ofString "" → (∀ p ∈ ps c, z ≠ p.1) → stored.contains z = false → m' z = m₀ z) ∧ P i c := by
        rintro ⟨c', h3, tk3, m3, news3, rfl, F3, N3, hn3, ho3, hi3, hf3, hk3, hr3, hp3⟩
        have hI3 := (N3 _ (ho3 _ (.head _))).1
        refine ⟨n + 1 - (i + 1), by omega, i + 1, c', h3, tk3, m3, rfl, hlt, rfl, hit9 h3 hI3, F3, fun p hp => N3 p (hn3 p hp), fun p hp e => ?_, hf3, hk3, hr3, hp3⟩
        have e1 := (N3 p (hn3 p hp)).1
        rw [e, hI3] at e1
        have e3 : oI = p.2 := Option.some.inj e1
        exact (hi3 p hp).elim (fun g => hni9 (e3 ▸ g)) fun g => g _ (.head _) e.symm
      cases f with
      | ret v => exact h₃
      | brk => exact h₃
      | next => exact fin h₃
      | cont => exact fin h₃
  · have hin : i = n := by omega
    subst hin
    refine W.done _ _ _ hst fun h₁ tk₁ hk₁ => wpAny_execs_nil ?_
    obtain ⟨F₁, N₁⟩ := next h₁ hk₁
    exact done c m' h₁ tk₁ hf' hp' (kst_frOut h1 h2 F₁) N₁
end

end
section
section
variable {prog : Program} {w : World} {A : Around} {E : Value → Shared → Prop} {Q : Flow → Shared → Prop} {s : Shared} {env : Env} {h₀ : Heap} {target : PySem.Expr} {body : List Stmt}
/-- a loop with a free ledger under the library's TurnsAt: any target -/
theorem turns_free {σ : Type} {I : Addr} {fp wr : List Addr} {n : Nat} {P Md : Nat → Value → Heap → Prop} {St : Nat → Heap → Prop} {m₀ : Str → Option Value} {hp : Heap} {tk0 : Nat} (Led : σ → List (Addr × Obj)) (ps : σ → List (Str × Value)) (Facts : σ → Prop) (stored : List Str) (Pc : Nat → σ → Prop) (c₀ : σ)
    (W : KTurns prog w A target I fp wr n P Md St) (hcl : ∀ i h, St i h → ∀ b ∈ wr, ∃ o, h.get? b = some o ∧ ¬ NoIter o) (hLf : env.locals ∉ fp) (hwr : ∀ b ∈ wr, h₀.get? b = none) (hfp : ∀ b ∈ fp, b ∈ wr ∨ (∃ o, h₀.get? b = some o) ∨ ∃ o, ∀ c, (b, o) ∈ Led c)
    (hst : St 0 hp) (F : Fr h₀ env.locals hp m₀) (N : News h₀ env.locals hp (Led c₀)) (hni : ∀ p ∈ Led c₀, p.1 ∉ wr) (hf : Facts c₀) (hk : ∀ p ∈ ps c₀, m₀ p.1 = some p.2) (hp0 : Pc 0 c₀)
    (turn : ∀ (c : σ) i v (u : Str → Option Value) h tk own, i < n → P i v h → OwnOff own ((Led c).map (·.1)) → Facts c → Pc i c →
      Fr h₀ env.locals h (fun y => if y = PySem.Str.ofString "" then u y else kstB (fun z => if stored.contains z then u z else m₀ z) (ps c) y) → News h₀ env.locals h (Led c ++ own) →
      wpAny (model prog w) A (assign target env v) (fun _ s₁ => wpAny (model prog w) A (execs body env) (FreePost h₀ env.locals Led ps Facts (PySem.Str.ofString "") stored m₀ (Pc (i + 1)) own { s with heap := h, toks := tk } Q) E s₁) E { s with heap := h, toks := tk })
    (done : ∀ (c : σ) (u : Str → Option Value) h tk, Facts c → Pc n c → Fr h₀ env.locals h (fun y => if y = PySem.Str.ofString "" then u y else kstB (fun z => if stored.contains z then u z else m₀ z) (ps c) y) → News h₀ env.locals h (Led c) → Q .next { s with heap := h, toks := tk }) :
    TurnsAt prog w A h₀ env target body Q E (.ref I) { s with heap := hp, toks := tk0 } := by
  refine ⟨I, fp, wr, n, P, Md, St, m₀, Led c₀, (fun i m nx => ∃ c, nx = Led c ∧ Facts c ∧ (∀ p ∈ ps c, m p.1 = some p.2) ∧ (∀ z, z ≠ PySem.Str.ofString "" → (∀ p ∈ ps c, z ≠ p.1) → stored.contains z = false → m z = m₀ z) ∧ Pc i c), rfl, W, hLf, hwr, hni, hst, F, N, ⟨c₀, rfl, hf, hk, fun _ _ _ _ => rfl, hp0⟩, ?_, ?_⟩
  · rintro i v m₁ nx h tk own hin hv ⟨c, rfl, hf', h1, h2, hp'⟩ hoff hown hget hfpo st F₁ N₁
    let own' := own.filter fun p => decide (p.1 ∈ wr)
    have hin' : ∀ p ∈ own', p ∈ own ∧ p.1 ∈ wr := fun p hp => ⟨(List.mem_filter.mp hp).1, by simpa using (List.mem_filter.mp hp).2⟩
    have hsep : OwnOff own' ((Led c).map (·.1)) := by
      intro p hp b hb e
      obtain ⟨q, hq, rfl⟩ := List.mem_map.mp hb
      exact hoff q hq (e ▸ (hin' p hp).2)
    have N₂ : News h₀ env.locals h (Led c ++ own') := fun p hp => N₁ p ((List.mem_append.mp hp).elim (fun h => List.mem_append.mpr (.inr h)) fun h => List.mem_append.mpr (.inl (hin' p h).1))
    refine wpAny_mono (turn c i v m₁ h tk own' hin hv hsep hf' hp' (kst_frOut h1 h2 F₁) N₂) (fun _ s₂ hb => wpAny_mono hb (fun f s₂ p => ?_) fun _ _ e => e) fun _ _ e => e
    have fin : FreeEnd h₀ env.locals Led ps Facts (PySem.Str.ofString "") stored m₀ (Pc (i + 1)) own' { s with heap := h, toks := tk } s₂ →
        LoopStepU h₀ env.locals wr own (fun m nx => ∃ c, nx = Led c ∧ Facts c ∧ (∀ p ∈ ps c, m p.1 = some p.2) ∧ (∀ z, z ≠ PySem.Str.ofString "" → (∀ p ∈ ps c, z ≠ p.1) → stored.contains z = false → m z = m₀ z) ∧ Pc (i + 1) c) { s with heap := h, toks := tk } .next s₂ := by
      rintro ⟨c', h', tk', m', news', e, F', N', hn, ho, hi, hf9, hk9, hr9, hp9⟩
      refine ⟨rfl, h', tk', m', Led c', e, F', fun p hp => ?_, fun p hp hq => ?_, c', rfl, hf9, hk9, hr9, hp9⟩
      · rcases List.mem_append.mp hp with h3 | h3
        · by_cases hpI : p.1 ∈ wr
          · exact N' p (ho p (List.mem_filter.mpr ⟨h3, by simpa using hpI⟩))
          · have hpf := hown p h3
            have NL := N₁ p (List.mem_append.mpr (.inl h3))
            rcases hfp p.1 hpf with h4 | ⟨o, h4⟩ | ⟨o, h4⟩
            · exact absurd h4 hpI
            · rw [NL.2.2] at h4; cases h4
            · have e1 := (N₁ _ (List.mem_append.mpr (.inr (h4 c)))).1
              have e2 : p = (p.1, o) := Prod.ext rfl (by rw [NL.1] at e1; exact Option.some.inj e1)
              have e3 := N' _ (hn _ (h4 c'))
              rw [← e2] at e3; exact e3
        · exact N' p (hn p h3)
      · obtain ⟨oI, hoI, hcI⟩ := hcl _ _ st _ hq
        have hmI : (p.1, oI) ∈ own := hfpo p.1 (W.sub _ hq) (hwr _ hq) oI hoI
        have e1 := (N' p (hn p hp)).1
        have e2 := (N' _ (ho _ (List.mem_filter.mpr ⟨hmI, by simpa using hq⟩))).1
        rw [e2] at e1
        have e3 : oI = p.2 := Option.some.inj e1
        exact (hi p hp).elim (fun g => hcI (e3 ▸ g)) fun g => g _ (List.mem_filter.mpr ⟨hmI, by simpa using hq⟩) rfl
    cases f with
    | ret v => exact p
    | brk => exact p
    | next => exact fin p
    | cont => exact fin p
  · rintro h' tk m' news' F' N' _ ⟨c, rfl, hf', h1, h2, hp'⟩
    exact done c m' h' tk hf' hp' (kst_frOut h1 h2 F') N'
/-- over a list of the ledger, any target -/
theorem list_turns {σ : Type} {l : Addr} {vs : List Value} {nn : Nat} {m₀ : Str → Option Value} (Led : σ → List (Addr × Obj)) (ps : σ → List (Str × Value)) (Facts : σ → Prop) (stored : List Str) (Pc : Nat → σ → Prop) (c₀ : σ)
    (hh : A.handled = none) (hl : ∀ c, (l, listOf vs.toArray nn) ∈ Led c) (F : Fr h₀ env.locals s.heap m₀) (N : News h₀ env.locals s.heap (Led c₀)) (hf : Facts c₀) (hk : ∀ p ∈ ps c₀, m₀ p.1 = some p.2) (hp0 : Pc 0 c₀)
    (turn : ∀ (c : σ) i v (u : Str → Option Value) h tk own, vs[i]? = some v → OwnOff own ((Led c).map (·.1)) → Facts c → Pc i c →
      Fr h₀ env.locals h (fun y => if y = PySem.Str.ofString "" then u y else kstB (fun z => if stored.contains z then u z else m₀ z) (ps c) y) → News h₀ env.locals h (Led c ++ own) →
      wpAny (model prog w) A (assign target env v) (fun _ s₁ => wpAny (model prog w) A (execs body env) (FreePost h₀ env.locals Led ps Facts (PySem.Str.ofString "") stored m₀ (Pc (i + 1)) own { s with heap := h, toks := tk } Q) E s₁) E { s with heap := h, toks := tk })
    (done : ∀ (c : σ) (u : Str → Option Value) h tk, Facts c → Pc vs.length c → Fr h₀ env.locals h (fun y => if y = PySem.Str.ofString "" then u y else kstB (fun z => if stored.contains z then u z else m₀ z) (ps c) y) → News h₀ env.locals h (Led c) → Q .next { s with heap := h, toks := tk }) :
    wpAny (model prog w) A (pyIter (.ref l)) (fun it s₂ => TurnsAt prog w A h₀ env target body Q E it s₂) E s := by
  have hax := N _ (hl c₀)
  have hls : s.heap.IsList l vs.toArray := ⟨_, hax.1, rfl, nn, rfl⟩
  have hlt : l < s.heap.objs.size := Heap.lt_size hax.1
  have hne : l ≠ s.heap.objs.size := Nat.ne_of_lt hlt
  refine wpAny_pyIter_list hls ?_
  have W := KTurns.ofWalks (target := target) (Walks.list (prog := prog) (w := w) hh s.heap.objs.size l hne vs.toArray) fun i v s Q E st q => letGo_listiter st.1 q
  have hlen : vs.toArray.size = vs.length := List.size_toArray ..
  rw [hlen] at W
  refine turns_free Led ps Facts stored Pc c₀ W (fun i h st b hb => ?_) ?_ (fun b hb => ?_) (fun b hb => ?_) ⟨⟨_, Heap.get?_push_size _ rfl, rfl, rfl⟩, hls.at fun o e => Heap.get?_push_of_some _ e⟩ (F.push _) (fun p hp => ⟨Heap.get?_push_of_some _ (N p hp).1, (N p hp).2⟩) (fun p hp hI => ?_) hf hk hp0 ?_ done
  · obtain ⟨o, ho, _, hd⟩ := st.1
    rw [List.mem_singleton.mp hb]
    exact ⟨o, ho, fun q => q _ hd⟩
  · intro hI
    rcases List.mem_cons.mp hI with e | hI
    · exact absurd F.ns.lt (e ▸ Nat.lt_irrefl _)
    · exact hax.2.1 (List.mem_singleton.mp hI).symm
  · rw [List.mem_singleton.mp hb]; exact next_is_new F
  · rcases List.mem_cons.mp hb with e | hb
    · exact .inl (e ▸ List.mem_singleton.mpr rfl)
    · rw [List.mem_singleton.mp hb]; exact .inr (.inr ⟨_, hl⟩)
  · exact absurd (Heap.lt_size (N p hp).1) ((List.mem_singleton.mp hI) ▸ Nat.lt_irrefl _)
  · intro c i v u h tk own hin hv hoff hf' hp' F' N'
    have hv' : vs.toArray[i]? = some v := hv
    exact turn c i v u h tk own (by simpa using hv') hoff hf' hp' F' N'
/-- enumerate over a list of the ledger -/
theorem enum_turns {σ : Type} {elts : List PySem.Expr} {k : Nat} {pos : Pos} {l : Addr} {vs : List Value} {nn : Nat} {m₀ : Str → Option Value} (Led : σ → List (Addr × Obj)) (ps : σ → List (Str × Value)) (Facts : σ → Prop) (stored : List Str) (Pc : Nat → σ → Prop) (c₀ : σ)
    (hh : A.handled = none) (hl : ∀ c, (l, listOf vs.toArray nn) ∈ Led c) (F : Fr h₀ env.locals s.heap m₀) (N : News h₀ env.locals s.heap (Led c₀)) (hf : Facts c₀) (hk : ∀ p ∈ ps c₀, m₀ p.1 = some p.2) (hp0 : Pc 0 c₀)
    (turn : ∀ (c : σ) (i : Nat) v (t : Tok) T (u : Str → Option Value) h tk own, vs[i]? = some v → IsTup h T #[.int (i : Int) t, v] → OwnOff own ((Led c).map (·.1)) → Facts c → Pc i c →
      Fr h₀ env.locals h (fun y => if y = PySem.Str.ofString "" then u y else kstB (fun z => if stored.contains z then u z else m₀ z) (ps c) y) → News h₀ env.locals h (Led c ++ own) →
      wpAny (model prog w) A (assign (.Tuple elts k pos) env (.ref T)) (fun _ s₁ => wpAny (model prog w) A (execs body env) (FreePost h₀ env.locals Led ps Facts (PySem.Str.ofString "") stored m₀ (Pc (i + 1)) own { s with heap := h, toks := tk } Q) E s₁) E { s with heap := h, toks := tk })
    (done : ∀ (c : σ) (u : Str → Option Value) h tk, Facts c → Pc vs.length c → Fr h₀ env.locals h (fun y => if y = PySem.Str.ofString "" then u y else kstB (fun z => if stored.contains z then u z else m₀ z) (ps c) y) → News h₀ env.locals h (Led c) → Q .next { s with heap := h, toks := tk }) :
    wpAny (model prog w) A (call (.type "enumerate") [.ref l]) (fun xv s₁ => wpAny (model prog w) A (pyIter xv) (fun it s₂ => TurnsAt prog w A h₀ env (.Tuple elts k pos) body Q E it s₂) E s₁) E s := by
  have hax := N _ (hl c₀)
  have hls : s.heap.IsList l vs.toArray := ⟨_, hax.1, rfl, nn, rfl⟩
  have hlt : l < s.heap.objs.size := Heap.lt_size hax.1
  have hLs : env.locals < s.heap.objs.size := F.ns.lt
  refine call_enumerate_list hls fun h' hE hI hsz hk9 => ?_
  refine wpAny_pyIter_enum hE ?_
  have W := KTurns.ofWalksU (elts := elts) (k := k) (pos := pos) (WalksT.enumerate (prog := prog) (w := w) hh (s.heap.objs.size + 1) s.heap.objs.size l (Nat.succ_ne_self _) (ktu_ne 1 hlt) (Nat.ne_of_lt hlt) vs.toArray).toU
  have hlen : vs.toArray.size = vs.length := List.size_toArray ..
  rw [hlen] at W
  refine turns_free (s := s) (tk0 := s.toks) Led ps Facts stored Pc c₀ W ?_ ?_ ?_ ?_ ?_ (F.keeps hk9) (N.grown hk9) ?_ hf hk hp0 ?_ done
  · rintro i h ⟨⟨old, he⟩, ⟨oi, hoi, hic, hd⟩, _⟩ b hb
    rcases List.mem_cons.mp hb with rfl | hb
    · exact ⟨_, he, fun q => q _ rfl⟩
    · rw [List.mem_singleton.mp hb]
      exact ⟨oi, hoi, fun q => q _ hd⟩
  · intro hI'
    have hb' : env.locals = s.heap.objs.size + 1 ∨ env.locals = s.heap.objs.size ∨ env.locals = l := by simpa using hI'
    rcases hb' with e | e | e
    · exact ktu_ne 1 hLs e
    · exact Nat.ne_of_lt hLs e
    · exact hax.2.1 e.symm
  · intro b hb
    have hb' : b = s.heap.objs.size + 1 ∨ b = s.heap.objs.size := by simpa using hb
    rcases hb' with rfl | rfl
    · exact ktu_new F (Nat.le_add_right _ _)
    · exact ktu_new F (Nat.le_refl _)
  · intro b hb
    have hb' : b = s.heap.objs.size + 1 ∨ b = s.heap.objs.size ∨ b = l := by simpa using hb
    rcases hb' with rfl | rfl | rfl
    · exact .inl (by simp)
    · exact .inl (by simp)
    · exact .inr (.inr ⟨_, hl⟩)
  · exact ⟨⟨.none, hE⟩, hI, hls.at fun o e => hk9 l o e⟩
  · intro p hp hI'
    have hb' : p.1 = s.heap.objs.size + 1 ∨ p.1 = s.heap.objs.size := by simpa using hI'
    have hlp := Heap.lt_size (N p hp).1
    rcases hb' with e | e
    · exact ktu_ne 1 hlp e
    · exact Nat.ne_of_lt hlp e
  · rintro c i v u h tk own hin ⟨T, vals, rfl, ⟨t, x, hx, rfl⟩, hT⟩ hoff hf' hp' F' N'
    exact turn c i x t T u h tk own (by simpa using hx) hT hoff hf' hp' F' N'
end

end

local macro_rules | `(tactic| walk_at $s:str) => `(tactic| k_extra $s)
local macro_rules | `(tactic| walk_at "FILL") => `(tactic| (w_top off; (have fillR : PySem.Challenge.rw_tk0114_01 = PySem.Challenge.rw_tk0114_01 := rfl); (have fillK : hd.heap_39 = hd.heap_39 := rfl); revert fillR fillK; k_fill; intro fillR fillK; clear fillR fillK; k_with_none))

section
theorem take_pow {g mm c : Int} (h1 : 0 ≤ mm) (h2 : mm < 10007) (h3 : 0 ≤ c) (h4 : c < 1000) : ([g, mm, [g, mm, c].getD (Int.toNat 2) 0 + 1].getD (Int.toNat 1) 0 + 61 * [g, mm, [g, mm, c].getD (Int.toNat 2) 0 + 1].getD (Int.toNat 2) 0).natAbs < 2 ^ 64 := by
  show (mm + 61 * (c + 1)).natAbs < 2 ^ 64
  omega
section
variable {w : World} {A₀ : Around} {s : Shared} {base h₀ : Heap} {outer : List Env} {L : Addr} {m mg mb : Str → Option Value} {news : List (Addr × Obj)} {loose : List Str} {mean : ExcName → Option Value}
  {dp un : Nat} {gd : Option (List Code)} {cn : Str} {cs : Scope} {a : Addr} {ccd : Value} {cl : List (Str × Addr)} {Q E : Value → Shared → Prop}

theorem take_con {j : Addr} {vs : List Value} {n : Nat} {g mm c k : Int} {tk : Tok} 
    (B : Below A₀ base outer h₀) (F : Fr h₀ L s.heap m) (X₀ : (hd.heap_39 w.params).In h₀) (N : News h₀ L s.heap news) (T : Top hd.view_39 loose mean mg mb h₀)
    (hk : cs.kind = .function) (hdp : dp < 500) (hun : un < 5000)
    (hj : (j, listOf vs.toArray n) ∈ news) (hi : IntsAre vs [g, mm, c])
    (ret : ∀ d t vs' n' g' c' h' tk', 0 ≤ d → d < k → 0 ≤ g' → 0 ≤ c' → c' ≤ c + 1 → IntsAre vs' [g', mm, c'] → Fr h₀ L h' m → (∀ p ∈ news, p.1 ≠ j → At h₀ L h' p) → At h₀ L h' (j, listOf vs'.toArray n') → Q (.int d t) { s with heap := h', toks := tk' }) 
    (h0 : 0 ≤ g) (h1 : 0 ≤ mm) (h2 : mm < 10007) (h3 : 0 ≤ c) (h4 : c < 1000) (h5 : 1 ≤ k) (h6 : k < 1000) :
    wpAny (model PySem.Challenge.rw_tk0114_01.row.prog w) (ktrTop dp un gd cn cs L a ccd cl outer) (call (.ref 100) [.ref j, .int k tk]) Q E s := by
  walk_at "FILL"
  k_with "ENTER" => (k_dflt (refine' code_sub ?kPost ?k1 ?k2 ?k3 ?k4 ?k5 ?kA ?kF ?kK ?k6 ?k7 ?k8 ?k9 ?kB ?kS ?kBody ?kRet ?c5 ?c2 ?c3 ?c4; (case kA => exact rfl); (case kF => exact rfl); (case kK => k_asm); (case k1 => k_asm); (case k2 => k_asm); (case k3 => k_asm); (case k4 => k_asm); (case k5 => k_asm); (case k6 => k_is); (case k7 => k_is); (case k8 => ktr_room); (case k9 => first | exact BindsTo.of_eq (rfl : bindArgs _ _ = pure [(_, _)]) | exact BindsTo.of_eq (rfl : bindArgs _ _ = pure [(_, _), (_, _)]) | exact BindsTo.of_eq (rfl : bindArgs _ _ = pure [(_, _), (_, _), (_, _)]) | exact BindsTo.of_eq (rfl : bindArgs _ _ = pure [(_, _), (_, _), (_, _), (_, _)]) | exact BindsTo.of_eq (rfl : bindArgs _ _ = pure [(_, _), (_, _), (_, _), (_, _), (_, _)]) | exact BindsTo.of_eq rfl); (case c5 => decide); (case kB => exact locs rfl); (case c2 => exact rfl); (case c3 => exact rfl); (case c4 => exact rfl)))
  k_with "RetP" => (((try dsimp only [flv]); refine RetP.owed (by k_asm) (by k_asm) ?_))
  k_with "newList" => ((k_here; k_dflt (refine' newList_L ?r3_k1 ?r3_k2 ?_; (case r3_k1 => k_asm); (case r3_k2 => k_asm); k_whole); intro r_l' r_h' r_F' r_N' r_l1; (try k_lt r_l1); (try k_sweep)))
  k_with "call builtin:list.append" => ((k_here; (with_reducible show wpAny _ _ (call (Value.builtin _) [Value.ref _, Value.int _ _]) _ _ _); k_dflt (refine' append_ints ?r4_k1 ?r4_k2 (fun o' => ?r4_k3) ?r4_hi ?r4_hl ?_; (case r4_k1 => k_asm); (case r4_k2 => k_asm); (case r4_k3 => k_upd); (case r4_hi => assumption); (case r4_hl => first | omega | (simp only [List.length_append, List.length_cons, List.length_nil] at *; omega)); k_whole); intro r_h' r_us' r_un' r_hI' r_F' r_N'; (try dsimp only at r_N'); (try k_sweep)))
  k_with "FreePost" => ((dsimp only [FreePost]))
  k_with "NOITER" => ((repeat' (first | exact List.forall_mem_nil _ | (refine List.forall_mem_cons.mpr ⟨?_, ?_⟩) | exact noIter_list _ _ | exact noIter_inst _ _ | exact noIter_dict _ _ | exact noIter_tup _ _ | exact noIter_cell (by assumption))))
  k_with "OWNIN" => ((intro r_p r_hp; k_ownIn))
  k_with "subscriptTail" => ((k_here; (with_reducible show wpAny _ _ (subscriptTail _ _ (Value.ref _) (Value.int _ _)) _ _ _); k_dflt (refine' item_bnd ?r8_N ?r8_hm ?r8_hi ?r8_h0 ?r8_h1 ?r8_h2 ?_; (case r8_N => k_asm); (case r8_hm => k_mem); (case r8_hi => assumption); (case r8_h0 => first | omega | k_extra "low"); (case r8_h1 => first | omega | k_extra "high"); (case r8_h2 => omega)); intro r_t'))
  k_with "ENTERC" => (k_dflt (refine' code_subC ?kPost ?k1 ?k2 ?k3 ?k4 ?k5 ?kA ?kF ?kK ?k6 ?k7 ?k8 ?k9 ?kB ?kD ?kS ?kBody ?kRet ?c2 ?c3 ?c4; (case kA => exact rfl); (case kF => exact rfl); (case kK => k_asm); (case k1 => k_asm); (case k2 => k_asm); (case k3 => k_asm); (case k4 => k_asm); (case k5 => k_asm); (case k6 => k_is); (case k7 => k_is); (case k8 => ktr_room); (case k9 => first | exact BindsTo.of_eq (rfl : bindArgs _ _ = pure [(_, _)]) | exact BindsTo.of_eq (rfl : bindArgs _ _ = pure [(_, _), (_, _)]) | exact BindsTo.of_eq (rfl : bindArgs _ _ = pure [(_, _), (_, _), (_, _)]) | exact BindsTo.of_eq (rfl : bindArgs _ _ = pure [(_, _), (_, _), (_, _), (_, _)]) | exact BindsTo.of_eq (rfl : bindArgs _ _ = pure [(_, _), (_, _), (_, _), (_, _), (_, _)]) | exact BindsTo.of_eq rfl); (case kB => exact rfl); (case kD => decide +kernel); (case c2 => exact rfl); (case c3 => exact rfl); (case c4 => exact rfl)))
  k_with "GROUNDC" => ((intro r_g' r_L' r_h' r_tk' r_cells' r_F' r_N' r_Y' r_l1 r_B' r_X' r_T' r_lN; k_lt r_l1; k_cells r_Y'; (try simp only [List.cons_append, List.nil_append] at r_N'); (try dsimp only)))
  k_with "binaryOp Pow int int" => ((with_reducible refine pow_int_small (by decide) (by decide) (take_pow (by assumption) (by assumption) (by assumption) (by assumption)) ?_))
  obtain ⟨t1, r1, rfl, q1⟩ := hi.cons_inv
  obtain ⟨t2, r2, rfl, q2⟩ := q1.cons_inv
  obtain ⟨t3, r3, rfl, q3⟩ := q2.cons_inv
  cases q3
  clear q1 q2 hi
  refine wpAny_call ?_
  walk_at "ENTER"
  case kS => exact fun p hp => (List.mem_singleton.mp hp) ▸ hj
  case kPost => exact fun L' v sub' => ∃ d t vs' n' g' c', v = .int d t ∧ sub' = [(j, listOf vs'.toArray n')] ∧ 0 ≤ d ∧ d < k ∧ 0 ≤ g' ∧ 0 ≤ c' ∧ c' ≤ c + 1 ∧ IntsAre vs' [g', mm, c']
  case kRet =>
    rintro L' r sub' h' tk' hlt F' hs hn _ ⟨d, t, vs', n', g', c', rfl, rfl, a1, a2, a3, a4, a5, a6⟩
    refine ret d t vs' n' g' c' h' tk' a1 a2 a3 a4 a5 a6 F' (fun p hp hq => hn p hp fun q hq' => ?_) (hs _ (.head _))
    rw [List.mem_singleton.mp hq']; exact hq
  case kBody =>
    clear ret B F X₀ N T hj
    intro g' L' h' tk' F' N' B' X' T' _
    try dsimp only
    k_fold
    k_steps
    · refine ⟨⟨_, fun p hp => hp, _, _, _, _, _, _, rfl, rfl, ?_, ?_, ?_, ?_, ?_, .cons _ _ (.cons _ _ (.cons _ _ .nil))⟩⟩
      · exact Int.fmod_nonneg_of_pos _ (by omega)
      · exact Int.fmod_lt_of_pos _ (by omega)
      · exact Int.fdiv_nonneg h0 (by omega)
      · exact h3
      · omega
    · refine ⟨⟨_, fun p hp => hp, _, _, _, _, _, _, rfl, rfl, ?_, ?_, ?_, ?_, ?_, .cons _ _ (.cons _ _ (.cons _ _ .nil))⟩⟩
      · exact Int.fmod_nonneg_of_pos _ (by omega)
      · exact Int.fmod_lt_of_pos _ (by omega)
      · exact h0
      · show 0 ≤ c + 1
        omega
      · exact Int.le_refl _
end

end
section
/-- the jar's three ints; the third is at most b -/
def JarOk (b : Int) (ns : List Int) : Prop := ∃ g mm c, ns = [g, mm, c] ∧ 0 ≤ g ∧ 0 ≤ mm ∧ mm < 10007 ∧ 0 ≤ c ∧ c ≤ b
theorem JarOk.mono {b b' : Int} {ns : List Int} (h : JarOk b ns) (hb : b ≤ b') : JarOk b' ns := by
  obtain ⟨g, mm, c, h1, h2, h3, h4, h5, h6⟩ := h
  exact ⟨g, mm, c, h1, h2, h3, h4, h5, Int.le_trans h6 hb⟩

/-- a ledger one object of which has turned -/
theorem newsUpd {h₀ h' : Heap} {L d : Addr} {o o' : Obj} {news news' : List (Addr × Obj)} (U : Upd d o o' news news') (h1 : ∀ p ∈ news, p.1 ≠ d → At h₀ L h' p) (h2 : At h₀ L h' (d, o')) : News h₀ L h' news' := by
  obtain ⟨pre, post, rfl, rfl, a, b⟩ := U.split
  intro p hp
  rcases List.mem_append.mp hp with q | q
  · exact h1 p (List.mem_append_left _ q) (a p q)
  · rcases List.mem_cons.mp q with rfl | q
    · exact h2
    · exact h1 p (List.mem_append_right _ (.tail _ q)) (b p q)
theorem updMem {d : Addr} {o o' : Obj} {news news' : List (Addr × Obj)} (U : Upd d o o' news news') : (d, o) ∈ news := by
  obtain ⟨pre, post, rfl, rfl, a, b⟩ := U.split
  exact List.mem_append_right _ (.head _)
section
variable {w : World} {A₀ : Around} {s : Shared} {base h₀ : Heap} {outer : List Env} {L : Addr} {m mg mb : Str → Option Value} {news : List (Addr × Obj)} {loose : List Str} {mean : ExcName → Option Value}
  {dp un : Nat} {gd : Option (List Code)} {cn : Str} {cs : Scope} {a : Addr} {ccd : Value} {cl : List (Str × Addr)} {Q E : Value → Shared → Prop}
theorem take_use {j : Addr} {vs : List Value} {n : Nat} {b k : Int} {ns : List Int} {tk : Tok} {news' : Obj → List (Addr × Obj)}
    (B : Below A₀ base outer h₀) (F : Fr h₀ L s.heap m) (X₀ : (hd.heap_39 w.params).In h₀) (N : News h₀ L s.heap news) (T : Top hd.view_39 loose mean mg mb h₀)
    (hk : cs.kind = .function) (hdp : dp < 500) (hun : un < 5000)
    (U : ∀ o', Upd j (listOf vs.toArray n) o' news (news' o')) (hi : IntsAre vs ns) (hJ : JarOk b ns) (hb : b < 1000) (h5 : 1 ≤ k) (h6 : k < 1000)
    (ret : ∀ d t vs' n' ns' h' tk', 0 ≤ d → d < k → IntsAre vs' ns' → JarOk (b + 1) ns' → Fr h₀ L h' m → News h₀ L h' (news' (listOf vs'.toArray n')) → Q (.int d t) { s with heap := h', toks := tk' }) :
    wpAny (model PySem.Challenge.rw_tk0114_01.row.prog w) (ktrTop dp un gd cn cs L a ccd cl outer) (call (.ref 100) [.ref j, .int k tk]) Q E s := by
  obtain ⟨g, mm, c, rfl, g1, g2, g3, g4, g5⟩ := hJ
  exact take_con B F X₀ N T hk hdp hun (updMem (U default)) hi (fun d t vs' n' g' c' h' tk' a1 a2 a3 a4 a5 a6 F' hn ho =>
    ret d t vs' n' _ h' tk' a1 a2 a6 ⟨g', mm, c', rfl, a3, g2, g3, a4, by omega⟩ F' (newsUpd (U _) hn ho)) g1 g2 g3 g4 (by omega) h5 h6
end

end
section
section
variable {w : World} {A₀ : Around} {s : Shared} {base h₀ : Heap} {outer : List Env} {L : Addr} {m mg mb : Str → Option Value} {news : List (Addr × Obj)} {loose : List Str} {mean : ExcName → Option Value}
  {dp un : Nat} {gd : Option (List Code)} {cn : Str} {cs : Scope} {a : Addr} {ccd : Value} {cl : List (Str × Addr)} {Q E : Value → Shared → Prop}
theorem costs_con {j : Addr} {vs : List Value} {n : Nat} {ns : List Int}
    (B : Below A₀ base outer h₀) (F : Fr h₀ L s.heap m) (X₀ : (hd.heap_39 w.params).In h₀) (N : News h₀ L s.heap news) (T : Top hd.view_39 loose mean mg mb h₀)
    (hk : cs.kind = .function) (hdp : dp < 400) (hun : un < 4000)
    (hj : (j, listOf vs.toArray n) ∈ news) (hi : IntsAre vs ns) (hJ : JarOk 300 ns)
    (ret : ∀ l cs' ms k vs' n' ns' h' tk', (∀ p ∈ news, p.1 < l) → IntsAre cs' ms → 8 ≤ ms.length → ms.length ≤ 20 → IntsAre vs' ns' → JarOk 400 ns' → Fr h₀ L h' m → (∀ p ∈ news, p.1 ≠ j → At h₀ L h' p) → At h₀ L h' (j, listOf vs'.toArray n') → At h₀ L h' (l, listOf cs'.toArray k) →
      Q (.ref l) { s with heap := h', toks := tk' }) :
    wpAny (model PySem.Challenge.rw_tk0114_01.row.prog w) (ktrTop dp un gd cn cs L a ccd cl outer) (call (.ref 107) [.ref j]) Q E s := by
  walk_at "FILL"
  k_with "ENTER" => (k_dflt (refine' code_sub ?kPost ?k1 ?k2 ?k3 ?k4 ?k5 ?kA ?kF ?kK ?k6 ?k7 ?k8 ?k9 ?kB ?kS ?kBody ?kRet ?c5 ?c2 ?c3 ?c4; (case kA => exact rfl); (case kF => exact rfl); (case kK => k_asm); (case k1 => k_asm); (case k2 => k_asm); (case k3 => k_asm); (case k4 => k_asm); (case k5 => k_asm); (case k6 => k_is); (case k7 => k_is); (case k8 => ktr_room); (case k9 => first | exact BindsTo.of_eq (rfl : bindArgs _ _ = pure [(_, _)]) | exact BindsTo.of_eq (rfl : bindArgs _ _ = pure [(_, _), (_, _)]) | exact BindsTo.of_eq (rfl : bindArgs _ _ = pure [(_, _), (_, _), (_, _)]) | exact BindsTo.of_eq (rfl : bindArgs _ _ = pure [(_, _), (_, _), (_, _), (_, _)]) | exact BindsTo.of_eq (rfl : bindArgs _ _ = pure [(_, _), (_, _), (_, _), (_, _), (_, _)]) | exact BindsTo.of_eq rfl); (case c5 => decide); (case kB => exact locs rfl); (case c2 => exact rfl); (case c3 => exact rfl); (case c4 => exact rfl)))
  k_with "RetP" => (((try dsimp only [flv]); refine RetP.owed (by k_asm) (by k_asm) ?_))
  k_with "newList" => ((k_here; k_dflt (refine' newList_L ?r3_k1 ?r3_k2 ?_; (case r3_k1 => k_asm); (case r3_k2 => k_asm); k_whole); intro r_l' r_h' r_F' r_N' r_l1; (try k_lt r_l1); (try k_sweep)))
  k_with "call builtin:list.append" => ((k_here; (with_reducible show wpAny _ _ (call (Value.builtin _) [Value.ref _, Value.int _ _]) _ _ _); k_dflt (refine' append_ints ?r4_k1 ?r4_k2 (fun o' => ?r4_k3) ?r4_hi ?r4_hl ?_; (case r4_k1 => k_asm); (case r4_k2 => k_asm); (case r4_k3 => k_upd); (case r4_hi => assumption); (case r4_hl => first | omega | (simp only [List.length_append, List.length_cons, List.length_nil] at *; omega)); k_whole); intro r_h' r_us' r_un' r_hI' r_F' r_N'; (try dsimp only at r_N'); (try k_sweep)))
  k_with "FreePost" => ((dsimp only [FreePost]))
  k_with "NOITER" => ((repeat' (first | exact List.forall_mem_nil _ | (refine List.forall_mem_cons.mpr ⟨?_, ?_⟩) | exact noIter_list _ _ | exact noIter_inst _ _ | exact noIter_dict _ _ | exact noIter_tup _ _ | exact noIter_cell (by assumption))))
  k_with "OWNIN" => ((intro r_p r_hp; k_ownIn))
  k_with "subscriptTail" => ((k_here; (with_reducible show wpAny _ _ (subscriptTail _ _ (Value.ref _) (Value.int _ _)) _ _ _); k_dflt (refine' item_bnd ?r8_N ?r8_hm ?r8_hi ?r8_h0 ?r8_h1 ?r8_h2 ?_; (case r8_N => k_asm); (case r8_hm => k_mem); (case r8_hi => assumption); (case r8_h0 => first | omega | k_extra "low"); (case r8_h1 => first | omega | k_extra "high"); (case r8_h2 => omega)); intro r_t'))
  k_with "ENTERC" => (k_dflt (refine' code_subC ?kPost ?k1 ?k2 ?k3 ?k4 ?k5 ?kA ?kF ?kK ?k6 ?k7 ?k8 ?k9 ?kB ?kD ?kS ?kBody ?kRet ?c2 ?c3 ?c4; (case kA => exact rfl); (case kF => exact rfl); (case kK => k_asm); (case k1 => k_asm); (case k2 => k_asm); (case k3 => k_asm); (case k4 => k_asm); (case k5 => k_asm); (case k6 => k_is); (case k7 => k_is); (case k8 => ktr_room); (case k9 => first | exact BindsTo.of_eq (rfl : bindArgs _ _ = pure [(_, _)]) | exact BindsTo.of_eq (rfl : bindArgs _ _ = pure [(_, _), (_, _)]) | exact BindsTo.of_eq (rfl : bindArgs _ _ = pure [(_, _), (_, _), (_, _)]) | exact BindsTo.of_eq (rfl : bindArgs _ _ = pure [(_, _), (_, _), (_, _), (_, _)]) | exact BindsTo.of_eq (rfl : bindArgs _ _ = pure [(_, _), (_, _), (_, _), (_, _), (_, _)]) | exact BindsTo.of_eq rfl); (case kB => exact rfl); (case kD => decide +kernel); (case c2 => exact rfl); (case c3 => exact rfl); (case c4 => exact rfl)))
  k_with "GROUNDC" => ((intro r_g' r_L' r_h' r_tk' r_cells' r_F' r_N' r_Y' r_l1 r_B' r_X' r_T' r_lN; k_lt r_l1; k_cells r_Y'; (try simp only [List.cons_append, List.nil_append] at r_N'); (try dsimp only)))
  k_with "call ref" => ((k_here; (with_reducible show wpAny _ _ (call (Value.ref 100) [Value.ref _, Value.int _ _]) _ _ _); k_dflt (refine' take_use ?r12_B ?r12_F ?r12_X ?r12_N ?r12_T ?r12_hk ?r12_hd ?r12_hu (fun o' => ?r12_U) ?r12_hi ?r12_hJ ?r12_hb ?r12_h5 ?r12_h6 ?_; (case r12_B => k_asm); (case r12_F => k_asm); (case r12_X => k_asm); (case r12_N => k_asm); (case r12_T => k_asm); (case r12_hk => first | exact rfl | assumption); (case r12_hd => ktr_room); (case r12_hu => ktr_units); (case r12_U => k_upd); (case r12_hi => assumption); (case r12_hJ => assumption); (case r12_hb => omega); (case r12_h5 => omega); (case r12_h6 => omega)); intro r_d' r_t' r_vs' r_n' r_ns' r_h' r_tk' r_hd1' r_hd2' r_hI' r_hJ' r_F' r_N'; (try dsimp only at r_N'); (try k_sweep)))
  refine wpAny_call ?_
  walk_at "ENTER"
  case kS => exact fun p hp => (List.mem_singleton.mp hp) ▸ hj
  case kPost => exact fun L' v sub' => ∃ l cs' ms k vs' n' ns', v = .ref l ∧ L' < l ∧ sub' = [(j, listOf vs'.toArray n'), (l, listOf cs'.toArray k)] ∧ IntsAre cs' ms ∧ 8 ≤ ms.length ∧ ms.length ≤ 20 ∧ IntsAre vs' ns' ∧ JarOk 400 ns'
  case kRet =>
    rintro L' r sub' h' tk' hlt F' hs hn _ ⟨l, cs', ms, k, vs', n', ns', rfl, hl, rfl, a1, a2, a3, a4, a5⟩
    refine ret l cs' ms k vs' n' ns' h' tk' (fun p hp => Nat.lt_trans (hlt p hp) hl) a1 a2 a3 a4 a5 F' (fun p hp hq => hn p hp fun q hq' => ?_) (hs _ (.head _)) (hs _ (.tail _ (.head _)))
    rw [List.mem_singleton.mp hq']; exact hq
  case kBody =>
    clear ret B F X₀ N T hj
    intro g' L' h' tk' F' N' B' X' T' _
    try dsimp only
    k_fold
    k_with "pyIter ref" => k_state (fun pre found jar => found.length = pre.length ∧ JarOk (303 + pre.length) jar) "found" "jar"
    k_steps
    rename JarOk (303 + _) _ => q4
    rename (List.length _ = List.length (rangeKs _ _)) => q3
    refine ⟨⟨[(_, _), (_, _)], List.forall_mem_cons.mpr ⟨.tail _ (.tail _ (.head _)), List.forall_mem_cons.mpr ⟨.tail _ (.head _), List.forall_mem_nil _⟩⟩, _, _, _, _, _, _, _, rfl, ?_, rfl, by assumption, ?_, ?_, by assumption, JarOk.mono q4 ?_⟩⟩
    · refine ltN ?_; omega
    · rw [q3, rangeKs_length]; omega
    · rw [q3, rangeKs_length]; omega
    · rw [rangeKs_length]; omega
end

end
section
/-- a Nearest's dict -/
noncomputable abbrev nearDict (P : Params) (k1 k2 k3 k4 k5 t1 t2 t3 : Tok) (n : Nat) (first fewest most : Int) (c q : Addr) : Obj :=
  dictOf [⟨PyData.keyHash P (PySem.Str.ofString "first"), .str (PySem.Str.ofString "first") k1, .int first t1⟩, ⟨PyData.keyHash P (PySem.Str.ofString "fewest"), .str (PySem.Str.ofString "fewest") k2, .int fewest t2⟩,
    ⟨PyData.keyHash P (PySem.Str.ofString "most"), .str (PySem.Str.ofString "most") k3, .int most t3⟩, ⟨PyData.keyHash P (PySem.Str.ofString "costs"), .str (PySem.Str.ofString "costs") k4, .ref c⟩,
    ⟨PyData.keyHash P (PySem.Str.ofString "queue"), .str (PySem.Str.ofString "queue") k5, .ref q⟩] n
section
variable {prog : Program} {w : World} {A : Around} {s : Shared} {h₀ : Heap} {L : Addr} {m : Str → Option Value} {news : List (Addr × Obj)} {Q E : Value → Shared → Prop}
theorem pop0_ints {D : Addr} {us : List Value} {l : List Int} {n : Nat} {u : Tok} {news' : Obj → List (Addr × Obj)} (F : Fr h₀ L s.heap m) (N : News h₀ L s.heap news)
    (U : ∀ o', Upd D (listOf us.toArray n) o' news (news' o')) (hi : IntsAre us l) (hne : 0 < l.length) (hl : l.length ≤ 100000)
    (h : ∀ h' t us' n', IntsAre us' l.tail → Fr h₀ L h' m → News h₀ L h' (news' (listOf us'.toArray n')) → Q (.int (l.headD 0) t) { s with heap := h' }) : wpAny (model prog w) A (call (.builtin "list.pop") [.ref D, .int 0 u]) Q E s := by
  cases hi with
  | nil => exact absurd hne (Nat.lt_irrefl 0)
  | cons k t r =>
    refine kl_popAt F N (k := 0) (p := []) (y := .int k t) (q := _) rfl ?_ rfl (U _) ?_ fun h' F' N' => h h' t _ _ r F' N'
    · show seqIndex? 0 _ = some 0
      unfold seqIndex?
      simp
    · have := r.length
      simp only [List.length_cons] at hl
      rw [sizeLine_eq]
      simp only [List.length_cons]
      omega
theorem last_bnd {ms : Nat} {q : List Int} (h : ∀ i ∈ q, 0 ≤ i ∧ i < (ms : Int)) (hq : q.length ≠ 0) : 0 ≤ q.getD (-1 + (q.length : Int)).toNat 0 ∧ q.getD (-1 + (q.length : Int)).toNat 0 < ms := by
  refine h _ ?_
  rw [List.getD_eq_getElem?_getD, List.getElem?_eq_getElem (by omega)]
  exact List.getElem_mem _
end
section
variable {w : World} {A₀ : Around} {s : Shared} {base h₀ : Heap} {outer : List Env} {L : Addr} {m mg mb : Str → Option Value} {news : List (Addr × Obj)} {loose : List Str} {mean : ExcName → Option Value}
  {dp un : Nat} {gd : Option (List Code)} {cn : Str} {cs : Scope} {a : Addr} {ccd : Value} {cl : List (Str × Addr)} {Q E : Value → Shared → Prop}
theorem at_con {x dx c q : Addr} {k1 k2 k3 k4 k5 t1 t2 t3 tk : Tok} {nd nq nc : Nat} {first fewest most count : Int} {qs cvs : List Value} {q0 ms : List Int}
    (B : Below A₀ base outer h₀) (F : Fr h₀ L s.heap m) (X₀ : (hd.heap_39 w.params).In h₀) (N : News h₀ L s.heap news) (T : Top hd.view_39 loose mean mg mb h₀)
    (hk : cs.kind = .function) (hdp : dp < 400) (hun : un < 4000)
    (hx : (x, instObj 40 dx) ∈ news) (hdx : (dx, nearDict w.params k1 k2 k3 k4 k5 t1 t2 t3 nd first fewest most c q) ∈ news) (hc : (c, listOf cvs.toArray nc) ∈ news) (hq : (q, listOf qs.toArray nq) ∈ news)
    (n1 : @Ne Nat q x) (n2 : @Ne Nat q dx) (n3 : @Ne Nat q c) (hqi : IntsAre qs q0) (hci : IntsAre cvs ms)
    (b0 : 0 ≤ first) (b1 : fewest ≤ most) (b2 : count - fewest < ms.length) (b3 : ∀ i ∈ q0, 0 ≤ i ∧ i < ms.length) (b4 : q0.length ≤ 1000) (b5 : ms.length ≤ 1000)
    (retN : ∀ h' tk', count - fewest < first → Fr h₀ L h' m → (∀ p ∈ news, p.1 ≠ q → At h₀ L h' p) → At h₀ L h' (q, listOf qs.toArray nq) → Q .none { s with heap := h', toks := tk' })
    (retI : ∀ h' tk' t qs' nq', first ≤ count - fewest → IntsAre qs' (atQ ms fewest most count q0) → Fr h₀ L h' m → (∀ p ∈ news, p.1 ≠ q → At h₀ L h' p) → At h₀ L h' (q, listOf qs'.toArray nq') → Q (.int ((atQ ms fewest most count q0).headD 0) t) { s with heap := h', toks := tk' }) :
    wpAny (model PySem.Challenge.rw_tk0114_01.row.prog w) (ktrTop dp un gd cn cs L a ccd cl outer) (call (.ref 37) [.ref x, .int count tk]) Q E s := by
  unfold nearDict at hdx
  walk_at "FILL"
  k_with "ENTER" => (k_dflt (refine' code_sub ?kPost ?k1 ?k2 ?k3 ?k4 ?k5 ?kA ?kF ?kK ?k6 ?k7 ?k8 ?k9 ?kB ?kS ?kBody ?kRet ?c5 ?c2 ?c3 ?c4; (case kA => exact rfl); (case kF => exact rfl); (case kK => k_asm); (case k1 => k_asm); (case k2 => k_asm); (case k3 => k_asm); (case k4 => k_asm); (case k5 => k_asm); (case k6 => k_is); (case k7 => k_is); (case k8 => ktr_room); (case k9 => first | exact BindsTo.of_eq (rfl : bindArgs _ _ = pure [(_, _)]) | exact BindsTo.of_eq (rfl : bindArgs _ _ = pure [(_, _), (_, _)]) | exact BindsTo.of_eq (rfl : bindArgs _ _ = pure [(_, _), (_, _), (_, _)]) | exact BindsTo.of_eq (rfl : bindArgs _ _ = pure [(_, _), (_, _), (_, _), (_, _)]) | exact BindsTo.of_eq (rfl : bindArgs _ _ = pure [(_, _), (_, _), (_, _), (_, _), (_, _)]) | exact BindsTo.of_eq rfl); (case c5 => decide); (case kB => exact locs rfl); (case c2 => exact rfl); (case c3 => exact rfl); (case c4 => exact rfl)))
  k_with "RetP" => (((try dsimp only [flv]); refine RetP.owed (by k_asm) (by k_asm) ?_))
  k_with "newList" => ((k_here; k_dflt (refine' newList_L ?r3_k1 ?r3_k2 ?_; (case r3_k1 => k_asm); (case r3_k2 => k_asm); k_whole); intro r_l' r_h' r_F' r_N' r_l1; (try k_lt r_l1); (try k_sweep)))
  k_with "call builtin:list.append" => ((k_here; (with_reducible show wpAny _ _ (call (Value.builtin _) [Value.ref _, Value.int _ _]) _ _ _); k_dflt (refine' append_ints ?r4_k1 ?r4_k2 (fun o' => ?r4_k3) ?r4_hi ?r4_hl ?_; (case r4_k1 => k_asm); (case r4_k2 => k_asm); (case r4_k3 => k_upd); (case r4_hi => assumption); (case r4_hl => first | omega | (simp only [List.length_append, List.length_cons, List.length_nil] at *; omega)); k_whole); intro r_h' r_us' r_un' r_hI' r_F' r_N'; (try dsimp only at r_N'); (try k_sweep)))
  k_with "FreePost" => ((dsimp only [FreePost]))
  k_with "NOITER" => ((repeat' (first | exact List.forall_mem_nil _ | (refine List.forall_mem_cons.mpr ⟨?_, ?_⟩) | exact noIter_list _ _ | exact noIter_inst _ _ | exact noIter_dict _ _ | exact noIter_tup _ _ | exact noIter_cell (by assumption))))
  k_with "OWNIN" => ((intro r_p r_hp; k_ownIn))
  k_with "subscriptTail" => ((k_here; (with_reducible show wpAny _ _ (subscriptTail _ _ (Value.ref _) (Value.int _ _)) _ _ _); k_dflt (refine' item_bnd ?r8_N ?r8_hm ?r8_hi ?r8_h0 ?r8_h1 ?r8_h2 ?_; (case r8_N => k_asm); (case r8_hm => k_mem); (case r8_hi => assumption); (case r8_h0 => first | omega | k_extra "low"); (case r8_h1 => first | omega | k_extra "high"); (case r8_h2 => omega)); intro r_t'))
  k_with "ENTERC" => (k_dflt (refine' code_subC ?kPost ?k1 ?k2 ?k3 ?k4 ?k5 ?kA ?kF ?kK ?k6 ?k7 ?k8 ?k9 ?kB ?kD ?kS ?kBody ?kRet ?c2 ?c3 ?c4; (case kA => exact rfl); (case kF => exact rfl); (case kK => k_asm); (case k1 => k_asm); (case k2 => k_asm); (case k3 => k_asm); (case k4 => k_asm); (case k5 => k_asm); (case k6 => k_is); (case k7 => k_is); (case k8 => ktr_room); (case k9 => first | exact BindsTo.of_eq (rfl : bindArgs _ _ = pure [(_, _)]) | exact BindsTo.of_eq (rfl : bindArgs _ _ = pure [(_, _), (_, _)]) | exact BindsTo.of_eq (rfl : bindArgs _ _ = pure [(_, _), (_, _), (_, _)]) | exact BindsTo.of_eq (rfl : bindArgs _ _ = pure [(_, _), (_, _), (_, _), (_, _)]) | exact BindsTo.of_eq (rfl : bindArgs _ _ = pure [(_, _), (_, _), (_, _), (_, _), (_, _)]) | exact BindsTo.of_eq rfl); (case kB => exact rfl); (case kD => decide +kernel); (case c2 => exact rfl); (case c3 => exact rfl); (case c4 => exact rfl)))
  k_with "GROUNDC" => ((intro r_g' r_L' r_h' r_tk' r_cells' r_F' r_N' r_Y' r_l1 r_B' r_X' r_T' r_lN; k_lt r_l1; k_cells r_Y'; (try simp only [List.cons_append, List.nil_append] at r_N'); (try dsimp only)))
  k_with "call builtin:list.pop" => ((k_here; (with_reducible show wpAny _ _ (call (Value.builtin _) [Value.ref _, Value.int 0 _]) _ _ _); k_dflt (refine' pop0_ints ?r13_k1 ?r13_k2 (fun o' => ?r13_k3) ?r13_hi ?r13_hn ?r13_hl ?_; (case r13_k1 => k_asm); (case r13_k2 => k_asm); (case r13_k3 => k_upd); (case r13_hi => assumption); (case r13_hn => omega); (case r13_hl => omega); k_whole); intro r_h' r_t' r_us' r_un' r_hI' r_F' r_N'; (try dsimp only at r_N'); (try k_sweep)))
  refine wpAny_call ?_
  walk_at "ENTER"
  case kS => exact List.forall_mem_cons.mpr ⟨hx, List.forall_mem_cons.mpr ⟨hdx, List.forall_mem_cons.mpr ⟨hc, List.forall_mem_cons.mpr ⟨hq, List.forall_mem_nil _⟩⟩⟩⟩
  case kPost => exact fun L' v sub' => ∃ qs' nq', sub' = [(x, instObj 40 dx), (dx, nearDict w.params k1 k2 k3 k4 k5 t1 t2 t3 nd first fewest most c q), (c, listOf cvs.toArray nc), (q, listOf qs'.toArray nq')] ∧ ((count - fewest < first ∧ v = .none ∧ qs' = qs ∧ nq' = nq) ∨ (first ≤ count - fewest ∧ IntsAre qs' (atQ ms fewest most count q0) ∧ ∃ t, v = .int ((atQ ms fewest most count q0).headD 0) t))
  case kRet =>
    rintro L' r sub' h' tk' hlt F' hs hn _ ⟨qs', nq', rfl, hh⟩
    have hall : ∀ p ∈ news, p.1 ≠ q → At h₀ L h' p := by
      refine atOf (o := listOf qs.toArray nq) N (sub0 := [_, _, _]) (List.forall_mem_cons.mpr ⟨hx, List.forall_mem_cons.mpr ⟨hdx, List.forall_mem_cons.mpr ⟨hc, List.forall_mem_nil _⟩⟩⟩) ?_ ?_ hn
      · exact List.forall_mem_cons.mpr ⟨hs _ (.head _), List.forall_mem_cons.mpr ⟨hs _ (.tail _ (.head _)), List.forall_mem_cons.mpr ⟨hs _ (.tail _ (.tail _ (.head _))), List.forall_mem_nil _⟩⟩⟩
      · exact List.forall_mem_cons.mpr ⟨.inl (.head _), List.forall_mem_cons.mpr ⟨.inl (.tail _ (.head _)), List.forall_mem_cons.mpr ⟨.inl (.tail _ (.tail _ (.head _))), List.forall_mem_cons.mpr ⟨.inr rfl, List.forall_mem_nil _⟩⟩⟩⟩
    have hq' := hs _ (.tail _ (.tail _ (.tail _ (.head _))))
    rcases hh with ⟨a1, rfl, rfl, rfl⟩ | ⟨a1, a2, t, rfl⟩
    · exact retN h' tk' a1 F' hall hq'
    · exact retI h' tk' t qs' nq' a1 a2 F' hall hq'
  case kBody =>
    clear retN retI B F X₀ N T hx hdx hc hq
    intro g' L' h' tk' F' N' B' X' T' _
    try dsimp only
    k_fold
    k_with "low" => exact (last_bnd (by assumption) (by omega)).1
    k_with "high" => exact (last_bnd (by assumption) (by omega)).2
    k_with "exec While BoolOp cons nil" => k_while (fun _ qi => popBack ms (count - fewest) qi = popBack ms (count - fewest) q0 ∧ (∀ i ∈ qi, 0 ≤ i ∧ i < ms.length) ∧ qi.length ≤ 1000) (fun _ qi => qi.length) "self.queue"
    k_with "exec While Compare cons nil" => k_while (fun _ qi => (qi.dropWhile fun i => decide (i < count - most)) = atQ ms fewest most count q0 ∧ count - fewest ∈ qi ∧ 0 < qi.length ∧ qi.length ≤ 1001) (fun _ qi => qi.length) "self.queue"
    k_with "state" => exact at_s0 b3 b4
    k_with "state" => exact at_s1 (by assumption) (by assumption) (by assumption) (by assumption) (by assumption)
    k_with "state" => exact at_s2 (by assumption) (by assumption) (by assumption)
    k_with "state" => exact at_s3 (by assumption) (by assumption) (by assumption)
    k_with "measure" => exact at_m1 (by assumption)
    k_with "state" => exact at_s4 b1 (by assumption) (by assumption) (by assumption) (by assumption)
    k_with "measure" => exact at_m2 (by assumption)
    k_steps
    · exact ⟨⟨_, fun p hp => hp, _, _, rfl, .inl ⟨by omega, rfl, rfl, rfl⟩⟩⟩
    all_goals (
      rename (List.dropWhile _ _ = _) => e1
      rename (¬ _ < count - most) => e2
      have e3 := at_end e1 e2
      clear e1
      subst e3
      exact ⟨⟨_, fun p hp => hp, _, _, rfl, .inr ⟨by omega, by assumption, exInt (at_val _)⟩⟩⟩)
end

end
section
section
variable {w : World} {A₀ : Around} {s : Shared} {base h₀ : Heap} {outer : List Env} {L : Addr} {m mg mb : Str → Option Value} {news : List (Addr × Obj)} {loose : List Str} {mean : ExcName → Option Value}
  {dp un : Nat} {gd : Option (List Code)} {cn : Str} {cs : Scope} {a : Addr} {ccd : Value} {cl : List (Str × Addr)} {Q E : Value → Shared → Prop}
theorem near_new4 {c : Addr} {fewest most first : Int} {ta tb tc : Tok}
    (B : Below A₀ base outer h₀) (F : Fr h₀ L s.heap m) (X₀ : (hd.heap_39 w.params).In h₀) (N : News h₀ L s.heap news) (T : Top hd.view_39 loose mean mg mb h₀)
    (hk : cs.kind = .function) (hdp : dp < 400) (hun : un < 4000)
    (ret : ∀ x d q k1 k2 k3 k4 k5 t1 t2 t3 nd nq h' tk', (∀ p ∈ news, p.1 < d) → @LT.lt Nat _ d x → @LT.lt Nat _ x q → Fr h₀ L h' m →
      News h₀ L h' ((q, listOf [].toArray nq) :: (x, instObj 40 d) :: (d, nearDict w.params k1 k2 k3 k4 k5 t1 t2 t3 nd first fewest most c q) :: news) → Q (.ref x) { s with heap := h', toks := tk' }) :
    wpAny (model PySem.Challenge.rw_tk0114_01.row.prog w) (ktrTop dp un gd cn cs L a ccd cl outer) (call (.ref 40) [.int fewest ta, .int most tb, .ref c, .int first tc]) Q E s := by
  walk_at "FILL"
  k_with "ENTER" => (k_dflt (refine' code_sub ?kPost ?k1 ?k2 ?k3 ?k4 ?k5 ?kA ?kF ?kK ?k6 ?k7 ?k8 ?k9 ?kB ?kS ?kBody ?kRet ?c5 ?c2 ?c3 ?c4; (case kA => exact rfl); (case kF => exact rfl); (case kK => k_asm); (case k1 => k_asm); (case k2 => k_asm); (case k3 => k_asm); (case k4 => k_asm); (case k5 => k_asm); (case k6 => k_is); (case k7 => k_is); (case k8 => ktr_room); (case k9 => first | exact BindsTo.of_eq (rfl : bindArgs _ _ = pure [(_, _)]) | exact BindsTo.of_eq (rfl : bindArgs _ _ = pure [(_, _), (_, _)]) | exact BindsTo.of_eq (rfl : bindArgs _ _ = pure [(_, _), (_, _), (_, _)]) | exact BindsTo.of_eq (rfl : bindArgs _ _ = pure [(_, _), (_, _), (_, _), (_, _)]) | exact BindsTo.of_eq (rfl : bindArgs _ _ = pure [(_, _), (_, _), (_, _), (_, _), (_, _)]) | exact BindsTo.of_eq rfl); (case c5 => decide); (case kB => exact locs rfl); (case c2 => exact rfl); (case c3 => exact rfl); (case c4 => exact rfl)))
  k_with "RetP" => (((try dsimp only [flv]); refine RetP.owed (by k_asm) (by k_asm) ?_))
  k_with "newList" => ((k_here; k_dflt (refine' newList_L ?r3_k1 ?r3_k2 ?_; (case r3_k1 => k_asm); (case r3_k2 => k_asm); k_whole); intro r_l' r_h' r_F' r_N' r_l1; (try k_lt r_l1); (try k_sweep)))
  k_with "call builtin:list.append" => ((k_here; (with_reducible show wpAny _ _ (call (Value.builtin _) [Value.ref _, Value.int _ _]) _ _ _); k_dflt (refine' append_ints ?r4_k1 ?r4_k2 (fun o' => ?r4_k3) ?r4_hi ?r4_hl ?_; (case r4_k1 => k_asm); (case r4_k2 => k_asm); (case r4_k3 => k_upd); (case r4_hi => assumption); (case r4_hl => first | omega | (simp only [List.length_append, List.length_cons, List.length_nil] at *; omega)); k_whole); intro r_h' r_us' r_un' r_hI' r_F' r_N'; (try dsimp only at r_N'); (try k_sweep)))
  k_with "FreePost" => ((dsimp only [FreePost]))
  k_with "NOITER" => ((repeat' (first | exact List.forall_mem_nil _ | (refine List.forall_mem_cons.mpr ⟨?_, ?_⟩) | exact noIter_list _ _ | exact noIter_inst _ _ | exact noIter_dict _ _ | exact noIter_tup _ _ | exact noIter_cell (by assumption))))
  k_with "OWNIN" => ((intro r_p r_hp; k_ownIn))
  k_with "subscriptTail" => ((k_here; (with_reducible show wpAny _ _ (subscriptTail _ _ (Value.ref _) (Value.int _ _)) _ _ _); k_dflt (refine' item_bnd ?r8_N ?r8_hm ?r8_hi ?r8_h0 ?r8_h1 ?r8_h2 ?_; (case r8_N => k_asm); (case r8_hm => k_mem); (case r8_hi => assumption); (case r8_h0 => first | omega | k_extra "low"); (case r8_h1 => first | omega | k_extra "high"); (case r8_h2 => omega)); intro r_t'))
  k_with "ENTERC" => (k_dflt (refine' code_subC ?kPost ?k1 ?k2 ?k3 ?k4 ?k5 ?kA ?kF ?kK ?k6 ?k7 ?k8 ?k9 ?kB ?kD ?kS ?kBody ?kRet ?c2 ?c3 ?c4; (case kA => exact rfl); (case kF => exact rfl); (case kK => k_asm); (case k1 => k_asm); (case k2 => k_asm); (case k3 => k_asm); (case k4 => k_asm); (case k5 => k_asm); (case k6 => k_is); (case k7 => k_is); (case k8 => ktr_room); (case k9 => first | exact BindsTo.of_eq (rfl : bindArgs _ _ = pure [(_, _)]) | exact BindsTo.of_eq (rfl : bindArgs _ _ = pure [(_, _), (_, _)]) | exact BindsTo.of_eq (rfl : bindArgs _ _ = pure [(_, _), (_, _), (_, _)]) | exact BindsTo.of_eq (rfl : bindArgs _ _ = pure [(_, _), (_, _), (_, _), (_, _)]) | exact BindsTo.of_eq (rfl : bindArgs _ _ = pure [(_, _), (_, _), (_, _), (_, _), (_, _)]) | exact BindsTo.of_eq rfl); (case kB => exact rfl); (case kD => decide +kernel); (case c2 => exact rfl); (case c3 => exact rfl); (case c4 => exact rfl)))
  k_with "GROUNDC" => ((intro r_g' r_L' r_h' r_tk' r_cells' r_F' r_N' r_Y' r_l1 r_B' r_X' r_T' r_lN; k_lt r_l1; k_cells r_Y'; (try simp only [List.cons_append, List.nil_append] at r_N'); (try dsimp only)))
  k_with "ENTERD" => (k_dflt (refine' code_sub ?kPost ?k1 ?k2 ?k3 ?k4 ?k5 ?kA ?kF ?kK ?k6 ?k7 ?k8 ?k9 ?kB ?kS ?kBody ?kRet ?c5 ?c2 ?c3 ?c4; (case kA => exact rfl); (case kF => exact rfl); (case kK => k_asm); (case k1 => k_asm); (case k2 => k_asm); (case k3 => k_asm); (case k4 => k_asm); (case k5 => k_asm); (case k6 => k_is); (case k7 => k_is); (case k8 => ktr_room); (case k9 => first | exact BindsTo.of_eq (rfl : bindArgs _ _ = pure [(_, _), (_, _), (_, _), (_, _), (_, _)]) | exact BindsTo.of_eq rfl | exact binds_K (by k_in) rfl (by k_is) rfl rfl rfl); (case c5 => decide); (case kB => exact locs rfl); (case c2 => exact rfl); (case c3 => exact rfl); (case c4 => exact rfl)))
  refine' call_cls ?k1 ?k2 ?k3 ?k4 ?k5 ?k6 ?_
  case k1 => k_asm
  case k2 => k_asm
  case k3 => k_asm
  case k4 => k_is
  case k5 => k_is
  case k6 => k_is
  k_whole
  intro x dx hC FC NC l1 l2
  have hx1 : ∀ p ∈ news, @LT.lt Nat _ p.1 dx := l1
  have hx2 : @LT.lt Nat _ dx x := l2
  walk_at "ENTERD"
  case kS => exact List.forall_mem_cons.mpr ⟨.head _, List.forall_mem_cons.mpr ⟨.tail _ (.head _), List.forall_mem_nil _⟩⟩
  case kPost =>
    exact fun L' v sub' => v = .none ∧ ∃ (q : Addr) (k1 k2 k3 k4 k5 t1 t2 t3 : Tok) (nd nq : Nat), @LT.lt Nat _ L' q ∧ sub' = [(q, listOf [].toArray nq), (x, instObj 40 dx), (dx, nearDict w.params k1 k2 k3 k4 k5 t1 t2 t3 nd first fewest most c q)]
  case kRet =>
    rintro L' r sub' h' tk' hlt F' hs hn hne ⟨rfl, q, k1, k2, k3, k4, k5, t1, t2, t3, nd, nq, hq, rfl⟩
    have hxL : @LT.lt Nat _ x L' := hlt _ (.head _)
    refine ⟨rfl, ret x dx q k1 k2 k3 k4 k5 t1 t2 t3 nd nq h' tk' hx1 hx2 (Nat.lt_trans hxL hq) F' fun p hp => ?_⟩
    rcases List.mem_append.mp (show p ∈ [(q, listOf [].toArray nq), (x, instObj 40 dx), (dx, nearDict w.params k1 k2 k3 k4 k5 t1 t2 t3 nd first fewest most c q)] ++ news from hp) with hp | hp
    · exact hs p hp
    · exact hn p (.tail _ (.tail _ hp)) (List.forall_mem_cons.mpr ⟨Nat.ne_of_lt (Nat.lt_trans (hx1 p hp) hx2), List.forall_mem_cons.mpr ⟨Nat.ne_of_lt (hx1 p hp), List.forall_mem_nil _⟩⟩)
  case kBody =>
    clear ret B F X₀ N T FC NC l1 l2 hx1
    intro g' L' h' tk' F' N' B' X' T' hlt
    clear hlt
    try dsimp only
    k_fold
    k_steps
    exact ⟨⟨[(_, _), (_, _), (_, _)], List.forall_mem_cons.mpr ⟨by k_memK, List.forall_mem_cons.mpr ⟨by k_memK, List.forall_mem_cons.mpr ⟨by k_memK, List.forall_mem_nil _⟩⟩⟩, rfl, _, _, _, _, _, _, _, _, _, _, _, by omega, rfl⟩⟩
theorem near_new3 {c : Addr} {fewest most : Int} {ta tb : Tok}
    (B : Below A₀ base outer h₀) (F : Fr h₀ L s.heap m) (X₀ : (hd.heap_39 w.params).In h₀) (N : News h₀ L s.heap news) (T : Top hd.view_39 loose mean mg mb h₀)
    (hk : cs.kind = .function) (hdp : dp < 400) (hun : un < 4000)
    (ret : ∀ x d q k1 k2 k3 k4 k5 t1 t2 t3 nd nq h' tk', (∀ p ∈ news, p.1 < d) → @LT.lt Nat _ d x → @LT.lt Nat _ x q → Fr h₀ L h' m →
      News h₀ L h' ((q, listOf [].toArray nq) :: (x, instObj 40 d) :: (d, nearDict w.params k1 k2 k3 k4 k5 t1 t2 t3 nd 0 fewest most c q) :: news) → Q (.ref x) { s with heap := h', toks := tk' }) :
    wpAny (model PySem.Challenge.rw_tk0114_01.row.prog w) (ktrTop dp un gd cn cs L a ccd cl outer) (call (.ref 40) [.int fewest ta, .int most tb, .ref c]) Q E s := by
  walk_at "FILL"
  k_with "ENTER" => (k_dflt (refine' code_sub ?kPost ?k1 ?k2 ?k3 ?k4 ?k5 ?kA ?kF ?kK ?k6 ?k7 ?k8 ?k9 ?kB ?kS ?kBody ?kRet ?c5 ?c2 ?c3 ?c4; (case kA => exact rfl); (case kF => exact rfl); (case kK => k_asm); (case k1 => k_asm); (case k2 => k_asm); (case k3 => k_asm); (case k4 => k_asm); (case k5 => k_asm); (case k6 => k_is); (case k7 => k_is); (case k8 => ktr_room); (case k9 => first | exact BindsTo.of_eq (rfl : bindArgs _ _ = pure [(_, _)]) | exact BindsTo.of_eq (rfl : bindArgs _ _ = pure [(_, _), (_, _)]) | exact BindsTo.of_eq (rfl : bindArgs _ _ = pure [(_, _), (_, _), (_, _)]) | exact BindsTo.of_eq (rfl : bindArgs _ _ = pure [(_, _), (_, _), (_, _), (_, _)]) | exact BindsTo.of_eq (rfl : bindArgs _ _ = pure [(_, _), (_, _), (_, _), (_, _), (_, _)]) | exact BindsTo.of_eq rfl); (case c5 => decide); (case kB => exact locs rfl); (case c2 => exact rfl); (case c3 => exact rfl); (case c4 => exact rfl)))
  k_with "RetP" => (((try dsimp only [flv]); refine RetP.owed (by k_asm) (by k_asm) ?_))
  k_with "newList" => ((k_here; k_dflt (refine' newList_L ?r3_k1 ?r3_k2 ?_; (case r3_k1 => k_asm); (case r3_k2 => k_asm); k_whole); intro r_l' r_h' r_F' r_N' r_l1; (try k_lt r_l1); (try k_sweep)))
  k_with "call builtin:list.append" => ((k_here; (with_reducible show wpAny _ _ (call (Value.builtin _) [Value.ref _, Value.int _ _]) _ _ _); k_dflt (refine' append_ints ?r4_k1 ?r4_k2 (fun o' => ?r4_k3) ?r4_hi ?r4_hl ?_; (case r4_k1 => k_asm); (case r4_k2 => k_asm); (case r4_k3 => k_upd); (case r4_hi => assumption); (case r4_hl => first | omega | (simp only [List.length_append, List.length_cons, List.length_nil] at *; omega)); k_whole); intro r_h' r_us' r_un' r_hI' r_F' r_N'; (try dsimp only at r_N'); (try k_sweep)))
  k_with "FreePost" => ((dsimp only [FreePost]))
  k_with "NOITER" => ((repeat' (first | exact List.forall_mem_nil _ | (refine List.forall_mem_cons.mpr ⟨?_, ?_⟩) | exact noIter_list _ _ | exact noIter_inst _ _ | exact noIter_dict _ _ | exact noIter_tup _ _ | exact noIter_cell (by assumption))))
  k_with "OWNIN" => ((intro r_p r_hp; k_ownIn))
  k_with "subscriptTail" => ((k_here; (with_reducible show wpAny _ _ (subscriptTail _ _ (Value.ref _) (Value.int _ _)) _ _ _); k_dflt (refine' item_bnd ?r8_N ?r8_hm ?r8_hi ?r8_h0 ?r8_h1 ?r8_h2 ?_; (case r8_N => k_asm); (case r8_hm => k_mem); (case r8_hi => assumption); (case r8_h0 => first | omega | k_extra "low"); (case r8_h1 => first | omega | k_extra "high"); (case r8_h2 => omega)); intro r_t'))
  k_with "ENTERC" => (k_dflt (refine' code_subC ?kPost ?k1 ?k2 ?k3 ?k4 ?k5 ?kA ?kF ?kK ?k6 ?k7 ?k8 ?k9 ?kB ?kD ?kS ?kBody ?kRet ?c2 ?c3 ?c4; (case kA => exact rfl); (case kF => exact rfl); (case kK => k_asm); (case k1 => k_asm); (case k2 => k_asm); (case k3 => k_asm); (case k4 => k_asm); (case k5 => k_asm); (case k6 => k_is); (case k7 => k_is); (case k8 => ktr_room); (case k9 => first | exact BindsTo.of_eq (rfl : bindArgs _ _ = pure [(_, _)]) | exact BindsTo.of_eq (rfl : bindArgs _ _ = pure [(_, _), (_, _)]) | exact BindsTo.of_eq (rfl : bindArgs _ _ = pure [(_, _), (_, _), (_, _)]) | exact BindsTo.of_eq (rfl : bindArgs _ _ = pure [(_, _), (_, _), (_, _), (_, _)]) | exact BindsTo.of_eq (rfl : bindArgs _ _ = pure [(_, _), (_, _), (_, _), (_, _), (_, _)]) | exact BindsTo.of_eq rfl); (case kB => exact rfl); (case kD => decide +kernel); (case c2 => exact rfl); (case c3 => exact rfl); (case c4 => exact rfl)))
  k_with "GROUNDC" => ((intro r_g' r_L' r_h' r_tk' r_cells' r_F' r_N' r_Y' r_l1 r_B' r_X' r_T' r_lN; k_lt r_l1; k_cells r_Y'; (try simp only [List.cons_append, List.nil_append] at r_N'); (try dsimp only)))
  k_with "ENTERD" => (k_dflt (refine' code_sub ?kPost ?k1 ?k2 ?k3 ?k4 ?k5 ?kA ?kF ?kK ?k6 ?k7 ?k8 ?k9 ?kB ?kS ?kBody ?kRet ?c5 ?c2 ?c3 ?c4; (case kA => exact rfl); (case kF => exact rfl); (case kK => k_asm); (case k1 => k_asm); (case k2 => k_asm); (case k3 => k_asm); (case k4 => k_asm); (case k5 => k_asm); (case k6 => k_is); (case k7 => k_is); (case k8 => ktr_room); (case k9 => first | exact BindsTo.of_eq (rfl : bindArgs _ _ = pure [(_, _), (_, _), (_, _), (_, _), (_, _)]) | exact BindsTo.of_eq rfl | exact binds_K (by k_in) rfl (by k_is) rfl rfl rfl); (case c5 => decide); (case kB => exact locs rfl); (case c2 => exact rfl); (case c3 => exact rfl); (case c4 => exact rfl)))
  refine' call_cls ?k1 ?k2 ?k3 ?k4 ?k5 ?k6 ?_
  case k1 => k_asm
  case k2 => k_asm
  case k3 => k_asm
  case k4 => k_is
  case k5 => k_is
  case k6 => k_is
  k_whole
  intro x dx hC FC NC l1 l2
  have hx1 : ∀ p ∈ news, @LT.lt Nat _ p.1 dx := l1
  have hx2 : @LT.lt Nat _ dx x := l2
  walk_at "ENTERD"
  case kS => exact List.forall_mem_cons.mpr ⟨.head _, List.forall_mem_cons.mpr ⟨.tail _ (.head _), List.forall_mem_nil _⟩⟩
  case kPost =>
    exact fun L' v sub' => v = .none ∧ ∃ (q : Addr) (k1 k2 k3 k4 k5 t1 t2 t3 : Tok) (nd nq : Nat), @LT.lt Nat _ L' q ∧ sub' = [(q, listOf [].toArray nq), (x, instObj 40 dx), (dx, nearDict w.params k1 k2 k3 k4 k5 t1 t2 t3 nd 0 fewest most c q)]
  case kRet =>
    rintro L' r sub' h' tk' hlt F' hs hn hne ⟨rfl, q, k1, k2, k3, k4, k5, t1, t2, t3, nd, nq, hq, rfl⟩
    have hxL : @LT.lt Nat _ x L' := hlt _ (.head _)
    refine ⟨rfl, ret x dx q k1 k2 k3 k4 k5 t1 t2 t3 nd nq h' tk' hx1 hx2 (Nat.lt_trans hxL hq) F' fun p hp => ?_⟩
    rcases List.mem_append.mp (show p ∈ [(q, listOf [].toArray nq), (x, instObj 40 dx), (dx, nearDict w.params k1 k2 k3 k4 k5 t1 t2 t3 nd 0 fewest most c q)] ++ news from hp) with hp | hp
    · exact hs p hp
    · exact hn p (.tail _ (.tail _ hp)) (List.forall_mem_cons.mpr ⟨Nat.ne_of_lt (Nat.lt_trans (hx1 p hp) hx2), List.forall_mem_cons.mpr ⟨Nat.ne_of_lt (hx1 p hp), List.forall_mem_nil _⟩⟩)
  case kBody =>
    clear ret B F X₀ N T FC NC l1 l2 hx1
    intro g' L' h' tk' F' N' B' X' T' hlt
    clear hlt
    try dsimp only
    k_fold
    k_steps
    exact ⟨⟨[(_, _), (_, _), (_, _)], List.forall_mem_cons.mpr ⟨by k_memK, List.forall_mem_cons.mpr ⟨by k_memK, List.forall_mem_cons.mpr ⟨by k_memK, List.forall_mem_nil _⟩⟩⟩, rfl, _, _, _, _, _, _, _, _, _, _, _, by omega, rfl⟩⟩
end

end
section
/-- None or an int -/
def OptVal (v : Value) (o : Option Int) : Prop := match o with
  | none => v = .none
  | some i => ∃ t, v = .int i t
theorem OptVal.none {v : Value} {o : Option Int} (h : OptVal v o) (e : o = .none) : v = .none := by subst e; exact h
theorem OptVal.some {v : Value} {o : Option Int} {i : Int} (h : OptVal v o) (e : o = .some i) : ∃ t, v = .int i t := by subst e; exact h
theorem OptVal.cases {v : Value} {ms ts : List Int} {i : Nat} {B : Int → Prop} (hb : ∀ i ∈ ts, B i) (h : OptVal v (latestP ms (ts.take i))) : (latestP ms (ts.take i) = .none ∧ v = .none) ∨ ∃ q t, latestP ms (ts.take i) = .some q ∧ v = .int q t ∧ B q := by
  cases hL : latestP ms (ts.take i) with
  | none => exact .inl ⟨rfl, h.none hL⟩
  | some q =>
    obtain ⟨t, hv⟩ := h.some hL
    exact .inr ⟨q, t, rfl, hv, hb q (List.mem_of_mem_take (latestP_mem ms _ q hL))⟩
section
variable {w : World} {A₀ : Around} {s : Shared} {base h₀ : Heap} {outer : List Env} {L : Addr} {m mg mb : Str → Option Value} {news : List (Addr × Obj)} {loose : List Str} {mean : ExcName → Option Value}
  {dp un : Nat} {gd : Option (List Code)} {cn : Str} {cs : Scope} {a : Addr} {ccd : Value} {cl : List (Str × Addr)} {Q E : Value → Shared → Prop}
theorem lat_s0 {ms ts : List Int} {i : Nat} {p : Int} {t : Tok} (h : ts[i]? = some p) (h1 : latestP ms (ts.take i) = none) : OptVal (.int p t) (latestP ms (ts.take (i + 1))) := by
  rw [lat_take ms ts i p h, h1]; exact ⟨t, rfl⟩
theorem lat_s1 {ms ts : List Int} {i : Nat} {p q : Int} {t : Tok} (h : ts[i]? = some p) (h1 : latestP ms (ts.take i) = some q) (hc : gi ms p ≤ gi ms q) : OptVal (.int p t) (latestP ms (ts.take (i + 1))) := by
  rw [lat_take ms ts i p h, h1]; unfold latS; dsimp only; rw [if_pos hc]; exact ⟨t, rfl⟩
theorem lat_s2 {ms ts : List Int} {i : Nat} {p q : Int} {t : Tok} (h : ts[i]? = some p) (h1 : latestP ms (ts.take i) = some q) (hc : ¬ gi ms p ≤ gi ms q) : OptVal (.int q t) (latestP ms (ts.take (i + 1))) := by
  rw [lat_take ms ts i p h, h1]; unfold latS; dsimp only; rw [if_neg hc]; exact ⟨t, rfl⟩
theorem latest_con {c th : Addr} {cvs tvs : List Value} {ms ts : List Int} {nc nt : Nat}
    (B : Below A₀ base outer h₀) (F : Fr h₀ L s.heap m) (X₀ : (hd.heap_39 w.params).In h₀) (N : News h₀ L s.heap news) (T : Top hd.view_39 loose mean mg mb h₀)
    (hk : cs.kind = .function) (hdp : dp < 400) (hun : un < 4000)
    (hc : (c, listOf cvs.toArray nc) ∈ news) (ht : (th, listOf tvs.toArray nt) ∈ news) (hci : IntsAre cvs ms) (hti : IntsAre tvs ts)
    (b1 : ∀ i ∈ ts, 0 ≤ i ∧ i < ms.length) (b2 : ms.length ≤ 1000)
    (ret : ∀ v h' tk', OptVal v (latestP ms ts) → Fr h₀ L h' m → News h₀ L h' news → Q v { s with heap := h', toks := tk' }) :
    wpAny (model PySem.Challenge.rw_tk0114_01.row.prog w) (ktrTop dp un gd cn cs L a ccd cl outer) (call (.ref 114) [.ref c, .ref th]) Q E s := by
  walk_at "FILL"
  k_with "ENTER" => (k_dflt (refine' code_sub ?kPost ?k1 ?k2 ?k3 ?k4 ?k5 ?kA ?kF ?kK ?k6 ?k7 ?k8 ?k9 ?kB ?kS ?kBody ?kRet ?c5 ?c2 ?c3 ?c4; (case kA => exact rfl); (case kF => exact rfl); (case kK => k_asm); (case k1 => k_asm); (case k2 => k_asm); (case k3 => k_asm); (case k4 => k_asm); (case k5 => k_asm); (case k6 => k_is); (case k7 => k_is); (case k8 => ktr_room); (case k9 => first | exact BindsTo.of_eq (rfl : bindArgs _ _ = pure [(_, _)]) | exact BindsTo.of_eq (rfl : bindArgs _ _ = pure [(_, _), (_, _)]) | exact BindsTo.of_eq (rfl : bindArgs _ _ = pure [(_, _), (_, _), (_, _)]) | exact BindsTo.of_eq (rfl : bindArgs _ _ = pure [(_, _), (_, _), (_, _), (_, _)]) | exact BindsTo.of_eq (rfl : bindArgs _ _ = pure [(_, _), (_, _), (_, _), (_, _), (_, _)]) | exact BindsTo.of_eq rfl); (case c5 => decide); (case kB => exact locs rfl); (case c2 => exact rfl); (case c3 => exact rfl); (case c4 => exact rfl)))
  k_with "RetP" => (((try dsimp only [flv]); refine RetP.owed (by k_asm) (by k_asm) ?_))
  k_with "newList" => ((k_here; k_dflt (refine' newList_L ?r3_k1 ?r3_k2 ?_; (case r3_k1 => k_asm); (case r3_k2 => k_asm); k_whole); intro r_l' r_h' r_F' r_N' r_l1; (try k_lt r_l1); (try k_sweep)))
  k_with "call builtin:list.append" => ((k_here; (with_reducible show wpAny _ _ (call (Value.builtin _) [Value.ref _, Value.int _ _]) _ _ _); k_dflt (refine' append_ints ?r4_k1 ?r4_k2 (fun o' => ?r4_k3) ?r4_hi ?r4_hl ?_; (case r4_k1 => k_asm); (case r4_k2 => k_asm); (case r4_k3 => k_upd); (case r4_hi => assumption); (case r4_hl => first | omega | (simp only [List.length_append, List.length_cons, List.length_nil] at *; omega)); k_whole); intro r_h' r_us' r_un' r_hI' r_F' r_N'; (try dsimp only at r_N'); (try k_sweep)))
  k_with "FreePost" => ((dsimp only [FreePost]))
  k_with "NOITER" => ((repeat' (first | exact List.forall_mem_nil _ | (refine List.forall_mem_cons.mpr ⟨?_, ?_⟩) | exact noIter_list _ _ | exact noIter_inst _ _ | exact noIter_dict _ _ | exact noIter_tup _ _ | exact noIter_cell (by assumption))))
  k_with "OWNIN" => ((intro r_p r_hp; k_ownIn))
  k_with "subscriptTail" => ((k_here; (with_reducible show wpAny _ _ (subscriptTail _ _ (Value.ref _) (Value.int _ _)) _ _ _); k_dflt (refine' item_bnd ?r8_N ?r8_hm ?r8_hi ?r8_h0 ?r8_h1 ?r8_h2 ?_; (case r8_N => k_asm); (case r8_hm => k_mem); (case r8_hi => assumption); (case r8_h0 => first | omega | k_extra "low"); (case r8_h1 => first | omega | k_extra "high"); (case r8_h2 => omega)); intro r_t'))
  k_with "ENTERC" => (k_dflt (refine' code_subC ?kPost ?k1 ?k2 ?k3 ?k4 ?k5 ?kA ?kF ?kK ?k6 ?k7 ?k8 ?k9 ?kB ?kD ?kS ?kBody ?kRet ?c2 ?c3 ?c4; (case kA => exact rfl); (case kF => exact rfl); (case kK => k_asm); (case k1 => k_asm); (case k2 => k_asm); (case k3 => k_asm); (case k4 => k_asm); (case k5 => k_asm); (case k6 => k_is); (case k7 => k_is); (case k8 => ktr_room); (case k9 => first | exact BindsTo.of_eq (rfl : bindArgs _ _ = pure [(_, _)]) | exact BindsTo.of_eq (rfl : bindArgs _ _ = pure [(_, _), (_, _)]) | exact BindsTo.of_eq (rfl : bindArgs _ _ = pure [(_, _), (_, _), (_, _)]) | exact BindsTo.of_eq (rfl : bindArgs _ _ = pure [(_, _), (_, _), (_, _), (_, _)]) | exact BindsTo.of_eq (rfl : bindArgs _ _ = pure [(_, _), (_, _), (_, _), (_, _), (_, _)]) | exact BindsTo.of_eq rfl); (case kB => exact rfl); (case kD => decide +kernel); (case c2 => exact rfl); (case c3 => exact rfl); (case c4 => exact rfl)))
  k_with "GROUNDC" => ((intro r_g' r_L' r_h' r_tk' r_cells' r_F' r_N' r_Y' r_l1 r_B' r_X' r_T' r_lN; k_lt r_l1; k_cells r_Y'; (try simp only [List.cons_append, List.nil_append] at r_N'); (try dsimp only)))
  k_with "FreeEnd" => (((rename News _ _ _ _ => r_nE'); (refine free_end _ (by assumption) r_nE' (by kst_in) (by walk_at "OWNIN") (by walk_at "NOITER") trivial (by kst_all) (by kst_same) ?_); refine Owed.out ?_))
  refine wpAny_call ?_
  walk_at "ENTER"
  case kS => exact List.forall_mem_cons.mpr ⟨hc, List.forall_mem_cons.mpr ⟨ht, List.forall_mem_nil _⟩⟩
  case kPost => exact fun L' v sub' => sub' = [(c, listOf cvs.toArray nc), (th, listOf tvs.toArray nt)] ∧ OptVal v (latestP ms ts)
  case kRet =>
    rintro L' r sub' h' tk' hlt F' hs hn _ ⟨rfl, hv⟩
    refine ret r h' tk' hv F' ?_
    exact newsSame N (List.forall_mem_cons.mpr ⟨hc, List.forall_mem_cons.mpr ⟨ht, List.forall_mem_nil _⟩⟩) hs hn
  case kBody =>
    clear ret B F X₀ N T hc ht
    intro g' L' h' tk' F' N' B' X' T' _
    try dsimp only
    k_fold
    k_with "pyIter ref" => (
      (rename Fr _ _ _ _ => lF'); (rename News _ _ _ _ => lN');
      (with_unfolding_all refine' free_list (fun _ : Value => [(c, listOf cvs.toArray nc), (th, listOf tvs.toArray nt)]) (fun v => [(PySem.Str.ofString "best", v)]) (fun _ => True) [] (fun i v => OptVal v (latestP ms (ts.take i))) Value.none (by rfl) (fun _ => .tail _ (.head _)) lF' lN' trivial ?kk rfl ?turn ?done);
      (case kk => kst_all);
      clear lF' lN';
      case' turn => (
        intro v i v0 u h tk own hi0 hoff _ hP kFr kNews;
        obtain ⟨n, t0, rfl, hn⟩ := hti.at i v0 hi0;
        have hb1 := b1 n (List.mem_of_getElem? hn);
        try dsimp only [kstB] at kFr;
        try simp only [List.nil_append, List.cons_append, List.append_nil] at kNews;
        try dsimp only [List.map_cons, List.map_nil] at hoff;
        rcases hP.cases b1 with ⟨hL, hv⟩ | ⟨q, tq, hL, hv, hb2⟩ <;> (subst hv; try k_fold));
      case' done => (
        intro v u h tk _ hP kFr kNews;
        rw [hti.length, List.take_length] at hP;
        try dsimp only [kstB] at kFr;
        try k_fold))
    k_steps
    all_goals first
      | exact ⟨⟨_, fun p hp => hp, rfl, by assumption⟩⟩
      | exact ⟨lat_s0 hn hL⟩
      | exact ⟨lat_s1 hn hL (by assumption)⟩
      | exact ⟨lat_s2 hn hL (by assumption)⟩
end

end
section
section
variable {prog : Program} {w : World} {A : Around} {E : Value → Shared → Prop} {Q : Flow → Shared → Prop} {s : Shared} {env : Env} {h₀ : Heap} {x : Str} {body : List Stmt}
theorem wait_loop {rv f0 c th : Addr} {rvs cvs tvs : List Value} {nr n0 nc nt : Nat} {rts ms : List Int} {m₀ : Str → Option Value}
    (hh : A.handled = none) (F : Fr h₀ env.locals s.heap m₀) (N : News h₀ env.locals s.heap [(rv, listOf rvs.toArray nr), (f0, listOf #[] n0), (c, listOf cvs.toArray nc), (th, listOf tvs.toArray nt)])
    (hk : m₀ (PySem.Str.ofString "found") = some (.ref f0)) (hi : IntsAre rvs rts) (n1 : @Ne Nat c f0) (n2 : @Ne Nat th f0)
    (turn : ∀ f fvs fl nf i n t (u : Str → Option Value) h tk own, rts[i]? = some n → OwnOff own [rv, f, c, th] → IntsAre fvs fl → fl = (rts.take i).foldl (waitS ms) [] → @Ne Nat c f → @Ne Nat th f →
      Fr h₀ env.locals h (fun y => if y = x then some (.int n t) else if y = PySem.Str.ofString "found" then some (.ref f) else m₀ y) → News h₀ env.locals h ([(rv, listOf rvs.toArray nr), (f, listOf fvs.toArray nf), (c, listOf cvs.toArray nc), (th, listOf tvs.toArray nt)] ++ own) →
      wpAny (model prog w) A (execs body env) (FreePost h₀ env.locals (fun q : Addr × List Value × List Int × Nat => [(rv, listOf rvs.toArray nr), (q.1, listOf q.2.1.toArray q.2.2.2), (c, listOf cvs.toArray nc), (th, listOf tvs.toArray nt)])
        (fun q => [(PySem.Str.ofString "found", Value.ref q.1)]) (fun q => IntsAre q.2.1 q.2.2.1) x [] m₀ (fun q => q.2.2.1 = (rts.take (i + 1)).foldl (waitS ms) [] ∧ @Ne Nat c q.1 ∧ @Ne Nat th q.1) own { s with heap := h, toks := tk } Q) E { s with heap := h, toks := tk })
    (done : ∀ f fvs nf (u : Str → Option Value) h tk, IntsAre fvs (rts.foldl (waitS ms) []) → @Ne Nat c f → @Ne Nat th f →
      Fr h₀ env.locals h (fun y => if y = x then u y else if y = PySem.Str.ofString "found" then some (.ref f) else m₀ y) → News h₀ env.locals h [(rv, listOf rvs.toArray nr), (f, listOf fvs.toArray nf), (c, listOf cvs.toArray nc), (th, listOf tvs.toArray nt)] → Q .next { s with heap := h, toks := tk }) :
    wpAny (model prog w) A (pyIter (.ref rv)) (fun it s₂ => LoopAtV prog w A h₀ env x body Q E it s₂) E s := by
  refine free_list (fun q : Addr × List Value × List Int × Nat => [(rv, listOf rvs.toArray nr), (q.1, listOf q.2.1.toArray q.2.2.2), (c, listOf cvs.toArray nc), (th, listOf tvs.toArray nt)])
    (fun q => [(PySem.Str.ofString "found", Value.ref q.1)]) (fun q => IntsAre q.2.1 q.2.2.1) [] (fun i q => q.2.2.1 = (rts.take i).foldl (waitS ms) [] ∧ @Ne Nat c q.1 ∧ @Ne Nat th q.1) (f0, [], [], n0)
    hh (fun _ => .head _) F N .nil (List.forall_mem_cons.mpr ⟨hk, List.forall_mem_nil _⟩) ⟨rfl, n1, n2⟩ ?_ ?_
  · rintro ⟨f, fvs, fl, nf⟩ i v u h tk own hv hoff hf ⟨hp1, hp2, hp3⟩ F' N'
    obtain ⟨n, t, rfl, hn⟩ := hi.at i v hv
    exact turn f fvs fl nf i n t u h tk own hn hoff hf hp1 hp2 hp3 F' N'
  · rintro ⟨f, fvs, fl, nf⟩ u h tk hf ⟨hp1, hp2, hp3⟩ F' N'
    rw [hi.length, List.take_length] at hp1
    dsimp only at hp1 hf
    subst hp1
    exact done f fvs nf u h tk hf hp2 hp3 F' N'
end
section
variable {w : World} {A₀ : Around} {s : Shared} {base h₀ : Heap} {outer : List Env} {L : Addr} {m mg mb : Str → Option Value} {news : List (Addr × Obj)} {loose : List Str} {mean : ExcName → Option Value}
  {dp un : Nat} {gd : Option (List Code)} {cn : Str} {cs : Scope} {a : Addr} {ccd : Value} {cl : List (Str × Addr)} {Q E : Value → Shared → Prop}
theorem waiting_con {c th : Addr} {cvs tvs : List Value} {ms ts : List Int} {nc nt : Nat}
    (B : Below A₀ base outer h₀) (F : Fr h₀ L s.heap m) (X₀ : (hd.heap_39 w.params).In h₀) (N : News h₀ L s.heap news) (T : Top hd.view_39 loose mean mg mb h₀)
    (hk : cs.kind = .function) (hdp : dp < 400) (hun : un < 4000)
    (hc : (c, listOf cvs.toArray nc) ∈ news) (ht : (th, listOf tvs.toArray nt) ∈ news) (hci : IntsAre cvs ms) (hti : IntsAre tvs ts)
    (b1 : ∀ i ∈ ts, 0 ≤ i ∧ i < ms.length) (b2 : ms.length ≤ 1000) (b3 : ts.length ≤ 1000)
    (ret : ∀ f fvs nf h' tk', (∀ p ∈ news, @Ne Nat p.1 f) → IntsAre fvs (waitP ms ts) → Fr h₀ L h' m → News h₀ L h' ((f, listOf fvs.toArray nf) :: news) → Q (.ref f) { s with heap := h', toks := tk' }) :
    wpAny (model PySem.Challenge.rw_tk0114_01.row.prog w) (ktrTop dp un gd cn cs L a ccd cl outer) (call (.ref 121) [.ref c, .ref th]) Q E s := by
  walk_at "FILL"
  k_with "ENTER" => (k_dflt (refine' code_sub ?kPost ?k1 ?k2 ?k3 ?k4 ?k5 ?kA ?kF ?kK ?k6 ?k7 ?k8 ?k9 ?kB ?kS ?kBody ?kRet ?c5 ?c2 ?c3 ?c4; (case kA => exact rfl); (case kF => exact rfl); (case kK => k_asm); (case k1 => k_asm); (case k2 => k_asm); (case k3 => k_asm); (case k4 => k_asm); (case k5 => k_asm); (case k6 => k_is); (case k7 => k_is); (case k8 => ktr_room); (case k9 => first | exact BindsTo.of_eq (rfl : bindArgs _ _ = pure [(_, _)]) | exact BindsTo.of_eq (rfl : bindArgs _ _ = pure [(_, _), (_, _)]) | exact BindsTo.of_eq (rfl : bindArgs _ _ = pure [(_, _), (_, _), (_, _)]) | exact BindsTo.of_eq (rfl : bindArgs _ _ = pure [(_, _), (_, _), (_, _), (_, _)]) | exact BindsTo.of_eq (rfl : bindArgs _ _ = pure [(_, _), (_, _), (_, _), (_, _), (_, _)]) | exact BindsTo.of_eq rfl); (case c5 => decide); (case kB => exact locs rfl); (case c2 => exact rfl); (case c3 => exact rfl); (case c4 => exact rfl)))
  k_with "RetP" => (((try dsimp only [flv]); refine RetP.owed (by k_asm) (by k_asm) ?_))
  k_with "newList" => ((k_here; k_dflt (refine' newList_L ?r3_k1 ?r3_k2 ?_; (case r3_k1 => k_asm); (case r3_k2 => k_asm); k_whole); intro r_l' r_h' r_F' r_N' r_l1; (try k_lt r_l1); (try k_sweep)))
  k_with "call builtin:list.append" => ((k_here; (with_reducible show wpAny _ _ (call (Value.builtin _) [Value.ref _, Value.int _ _]) _ _ _); k_dflt (refine' append_ints ?r4_k1 ?r4_k2 (fun o' => ?r4_k3) ?r4_hi ?r4_hl ?_; (case r4_k1 => k_asm); (case r4_k2 => k_asm); (case r4_k3 => k_upd); (case r4_hi => assumption); (case r4_hl => first | omega | (simp only [List.length_append, List.length_cons, List.length_nil] at *; omega)); k_whole); intro r_h' r_us' r_un' r_hI' r_F' r_N'; (try dsimp only at r_N'); (try k_sweep)))
  k_with "FreePost" => ((dsimp only [FreePost]))
  k_with "NOITER" => ((repeat' (first | exact List.forall_mem_nil _ | (refine List.forall_mem_cons.mpr ⟨?_, ?_⟩) | exact noIter_list _ _ | exact noIter_inst _ _ | exact noIter_dict _ _ | exact noIter_tup _ _ | exact noIter_cell (by assumption))))
  k_with "OWNIN" => ((intro r_p r_hp; k_ownIn))
  k_with "subscriptTail" => ((k_here; (with_reducible show wpAny _ _ (subscriptTail _ _ (Value.ref _) (Value.int _ _)) _ _ _); k_dflt (refine' item_bnd ?r8_N ?r8_hm ?r8_hi ?r8_h0 ?r8_h1 ?r8_h2 ?_; (case r8_N => k_asm); (case r8_hm => k_mem); (case r8_hi => assumption); (case r8_h0 => first | omega | k_extra "low"); (case r8_h1 => first | omega | k_extra "high"); (case r8_h2 => omega)); intro r_t'))
  k_with "ENTERC" => (k_dflt (refine' code_subC ?kPost ?k1 ?k2 ?k3 ?k4 ?k5 ?kA ?kF ?kK ?k6 ?k7 ?k8 ?k9 ?kB ?kD ?kS ?kBody ?kRet ?c2 ?c3 ?c4; (case kA => exact rfl); (case kF => exact rfl); (case kK => k_asm); (case k1 => k_asm); (case k2 => k_asm); (case k3 => k_asm); (case k4 => k_asm); (case k5 => k_asm); (case k6 => k_is); (case k7 => k_is); (case k8 => ktr_room); (case k9 => first | exact BindsTo.of_eq (rfl : bindArgs _ _ = pure [(_, _)]) | exact BindsTo.of_eq (rfl : bindArgs _ _ = pure [(_, _), (_, _)]) | exact BindsTo.of_eq (rfl : bindArgs _ _ = pure [(_, _), (_, _), (_, _)]) | exact BindsTo.of_eq (rfl : bindArgs _ _ = pure [(_, _), (_, _), (_, _), (_, _)]) | exact BindsTo.of_eq (rfl : bindArgs _ _ = pure [(_, _), (_, _), (_, _), (_, _), (_, _)]) | exact BindsTo.of_eq rfl); (case kB => exact rfl); (case kD => decide +kernel); (case c2 => exact rfl); (case c3 => exact rfl); (case c4 => exact rfl)))
  k_with "GROUNDC" => ((intro r_g' r_L' r_h' r_tk' r_cells' r_F' r_N' r_Y' r_l1 r_B' r_X' r_T' r_lN; k_lt r_l1; k_cells r_Y'; (try simp only [List.cons_append, List.nil_append] at r_N'); (try dsimp only)))
  k_with "FreeEnd" => (((rename News _ _ _ _ => r_nE'); (refine' free_end ⟨_, _, _, _⟩ (by assumption) r_nE' ?r16_hn ?r16_ho ?r16_hi ?r16_hf ?r16_hk ?r16_hr ?_); (case r16_hk => kst_all); (case r16_hn => kst_in); (case r16_ho => walk_at "OWNIN"); (case r16_hi => walk_at "NOITER"); (case r16_hf => kst_facts); (case r16_hr => kst_same); refine Owed.out ?_))
  refine wpAny_call ?_
  walk_at "ENTER"
  case kS => exact List.forall_mem_cons.mpr ⟨hc, List.forall_mem_cons.mpr ⟨ht, List.forall_mem_nil _⟩⟩
  case kPost => exact fun L' v sub' => ∃ f fvs nf, v = .ref f ∧ @Ne Nat c f ∧ @Ne Nat th f ∧ sub' = [(f, listOf fvs.toArray nf), (c, listOf cvs.toArray nc), (th, listOf tvs.toArray nt)] ∧ IntsAre fvs (waitP ms ts)
  case kRet =>
    rintro L' r sub' h' tk' hlt F' hs hn hne ⟨f, fvs, nf, rfl, n1, n2, rfl, hf⟩
    have hsub : ∀ p ∈ [(c, listOf cvs.toArray nc), (th, listOf tvs.toArray nt)], p ∈ news := List.forall_mem_cons.mpr ⟨hc, List.forall_mem_cons.mpr ⟨ht, List.forall_mem_nil _⟩⟩
    refine ret f fvs nf h' tk' (fun p hp => ?_) hf F' ?_
    · by_cases e1 : p.1 = c
      · rw [e1]; exact n1
      · by_cases e2 : p.1 = th
        · rw [e2]; exact n2
        · exact hne _ (.head _) p hp (List.forall_mem_cons.mpr ⟨e1, List.forall_mem_cons.mpr ⟨e2, List.forall_mem_nil _⟩⟩)
    · exact List.forall_mem_cons.mpr ⟨hs _ (.head _), newsSame N hsub (fun p hp => hs p (.tail _ hp)) hn⟩
  case kBody =>
    clear ret B F X₀ N T hc ht
    intro g' L' h' tk' F' N' B' X' T' _
    try dsimp only
    k_fold
    k_with "low" => exact (hb3 (wait_pos (by assumption))).1
    k_with "high" => exact (hb3 (wait_pos (by assumption))).2
    k_with "high" => exact Int.natCast_pos.mpr (wait_pos (by assumption))
    k_with "pyIter ref" => (
      (rename Fr _ _ _ _ => lF'); (rename News _ _ _ _ => lN');
      (with_unfolding_all refine' wait_loop (ms := ms) (by rfl) lF' lN' (by rfl) (by assumption) (by omega) (by omega) ?turn ?done);
      clear lF' lN';
      case' turn => (
        intro f fvs fl nf i n t u h tk own hn hoff hfl hP hne1 hne2 kFr kNews;
        have hb1 := b1 n (List.mem_reverse.mp (List.mem_of_getElem? hn));
        have hb2 := wait_len hP;
        have hb3 := wait_head b1 hP;
        try simp only [List.nil_append, List.cons_append, List.append_nil] at kNews;
        try k_fold);
      case' done => (
        intro f fvs nf u h tk hfl hne1 hne2 kFr kNews;
        try k_fold))
    k_steps
    all_goals first
      | (refine ⟨⟨[(f, _), _, _], List.forall_mem_cons.mpr ⟨.tail _ (.head _), List.forall_mem_cons.mpr ⟨.tail _ (.tail _ (.head _)), List.forall_mem_cons.mpr ⟨.tail _ (.tail _ (.tail _ (.head _))), List.forall_mem_nil _⟩⟩⟩, f, fvs, nf, rfl, hne1, hne2, rfl, hfl⟩⟩; done)
      | ((refine ⟨⟨wait_e1 hn hP (by assumption), ?_, ?_⟩⟩ <;> (refine neN ?_; (try dsimp only); omega)); done)
      | ((refine ⟨⟨wait_e2 hn hP (by assumption), ?_, ?_⟩⟩ <;> (refine neN ?_; (try dsimp only); omega)); done)
      | ((refine ⟨⟨wait_e3 hn hP (by assumption) (by assumption), ?_, ?_⟩⟩ <;> (refine neN ?_; (try dsimp only); omega)); done)
end

end
section
section
variable {w : World} {A₀ : Around} {s : Shared} {base h₀ : Heap} {outer : List Env} {L : Addr} {m mg mb : Str → Option Value} {news : List (Addr × Obj)} {loose : List Str} {mean : ExcName → Option Value}
  {dp un : Nat} {gd : Option (List Code)} {cn : Str} {cs : Scope} {a : Addr} {ccd : Value} {cl : List (Str × Addr)} {Q E : Value → Shared → Prop}
theorem costs_use {j : Addr} {vs : List Value} {n : Nat} {ns : List Int} {b : Int} {news' : Obj → List (Addr × Obj)}
    (B : Below A₀ base outer h₀) (F : Fr h₀ L s.heap m) (X₀ : (hd.heap_39 w.params).In h₀) (N : News h₀ L s.heap news) (T : Top hd.view_39 loose mean mg mb h₀)
    (hk : cs.kind = .function) (hdp : dp < 400) (hun : un < 4000)
    (U : ∀ o', Upd j (listOf vs.toArray n) o' news (news' o')) (hi : IntsAre vs ns) (hJ : JarOk b ns) (hb : b ≤ 300)
    (ret : ∀ l cs' ms k vs' n' ns' h' tk', (∀ p ∈ news, p.1 < l) → IntsAre cs' ms → 8 ≤ ms.length → ms.length ≤ 20 → IntsAre vs' ns' → JarOk 400 ns' → Fr h₀ L h' m → News h₀ L h' ((l, listOf cs'.toArray k) :: news' (listOf vs'.toArray n')) →
      Q (.ref l) { s with heap := h', toks := tk' }) :
    wpAny (model PySem.Challenge.rw_tk0114_01.row.prog w) (ktrTop dp un gd cn cs L a ccd cl outer) (call (.ref 107) [.ref j]) Q E s :=
  costs_con B F X₀ N T hk hdp hun (updMem (U default)) hi (hJ.mono hb) fun l cs' ms k vs' n' ns' h' tk' a1 a2 a3 a4 a5 a6 F' hn ho hl =>
    ret l cs' ms k vs' n' ns' h' tk' a1 a2 a3 a4 a5 a6 F' (List.forall_mem_cons.mpr ⟨hl, newsUpd (U _) hn ho⟩)
theorem at_use {x dx c q : Addr} {k1 k2 k3 k4 k5 t1 t2 t3 tk : Tok} {nd nq nc : Nat} {first fewest most count : Int} {qs cvs : List Value} {q0 ms : List Int} {news' : Obj → List (Addr × Obj)}
    (B : Below A₀ base outer h₀) (F : Fr h₀ L s.heap m) (X₀ : (hd.heap_39 w.params).In h₀) (N : News h₀ L s.heap news) (T : Top hd.view_39 loose mean mg mb h₀)
    (hk : cs.kind = .function) (hdp : dp < 400) (hun : un < 4000)
    (hx : (x, instObj 40 dx) ∈ news) (hdx : (dx, nearDict w.params k1 k2 k3 k4 k5 t1 t2 t3 nd first fewest most c q) ∈ news) (hc : (c, listOf cvs.toArray nc) ∈ news) (U : ∀ o', Upd q (listOf qs.toArray nq) o' news (news' o'))
    (n1 : @Ne Nat q x) (n2 : @Ne Nat q dx) (n3 : @Ne Nat q c) (hqi : IntsAre qs q0) (hci : IntsAre cvs ms)
    (b0 : 0 ≤ first) (b1 : fewest ≤ most) (b2 : count - fewest < ms.length) (b3 : ∀ i ∈ q0, 0 ≤ i ∧ i < (ms.length : Int)) (b4 : q0.length ≤ 1000) (b5 : ms.length ≤ 1000)
    (retN : ∀ h' tk', count - fewest < first → Fr h₀ L h' m → News h₀ L h' (news' (listOf qs.toArray nq)) → Q .none { s with heap := h', toks := tk' })
    (retI : ∀ h' tk' t qs' nq', first ≤ count - fewest → IntsAre qs' (atQ ms fewest most count q0) → Fr h₀ L h' m → News h₀ L h' (news' (listOf qs'.toArray nq')) → Q (.int ((atQ ms fewest most count q0).headD 0) t) { s with heap := h', toks := tk' }) :
    wpAny (model PySem.Challenge.rw_tk0114_01.row.prog w) (ktrTop dp un gd cn cs L a ccd cl outer) (call (.ref 37) [.ref x, .int count tk]) Q E s :=
  at_con B F X₀ N T hk hdp hun hx hdx hc (updMem (U default)) n1 n2 n3 hqi hci b0 b1 b2 b3 b4 b5
    (fun h' tk' a1 F' hn ho => retN h' tk' a1 F' (newsUpd (U _) hn ho)) (fun h' tk' t qs' nq' a1 a2 F' hn ho => retI h' tk' t qs' nq' a1 a2 F' (newsUpd (U _) hn ho))
end

end
section
section
variable {prog : Program} {w : World} {A : Around} {E : Value → Shared → Prop} {Q : Flow → Shared → Prop} {s : Shared} {env : Env} {h₀ : Heap} {body : List Stmt}
abbrev NearSt := List Value × Nat × List Value × List Int × Nat × Obj
noncomputable abbrev nearLed (q x dx sh l c3 c2 c1 j : Addr) (od o2 o1 : Obj) (us jv : List Value) (nu nj : Nat) (st : NearSt) : List (Addr × Obj) :=
  [(q, listOf st.2.2.1.toArray st.2.2.2.2.1), (x, instObj 40 dx), (dx, od), (sh, listOf st.1.toArray st.2.1), (l, listOf us.toArray nu), (c3, st.2.2.2.2.2), (c2, o2), (c1, o1), (j, listOf jv.toArray nj)]
theorem near_loop {P : Params} {k1 k2 k3 k4 k5 t1 t2 t3 : Tok} {nd : Nat} {target : PySem.Expr} {r : Addr} {a₀ b₀ : Int} {t₀ u₀ v₀ : Tok} {n : Nat} {m₀ : Str → Option Value} {ta tb : Addr × Obj} {q x dx sh l c3 c2 c1 j : Addr} {o2 o1 o3 : Obj} {us jv shv : List Value} {nu nj ns nq : Nat} {ms : List Int} {fewest most first : Int} {v3 : Option Value}
    {LL : Addr} {hp9 : Heap} (F9 : Fr h₀ LL hp9 m₀) (N9 : News h₀ LL hp9 [(q, listOf #[] nq), (x, instObj 40 dx), (dx, nearDict P k1 k2 k3 k4 k5 t1 t2 t3 nd first fewest most sh q), (sh, listOf shv.toArray ns), (l, listOf us.toArray nu), ta, tb, (c3, o3), (c2, o2), (c1, o1), (j, listOf jv.toArray nj)]) (hr9 : IsRange hp9 r a₀ b₀ 1 t₀ u₀ v₀) (hLL : env.locals = LL) (hhp : s.heap = hp9)
    (hh : A.handled = none) (hsmall : Builtin.Range.small a₀ b₀ 1 = true) (hn : Builtin.Range.rangeSize a₀ b₀ 1 = (n : Int))
    (hsh : IntsAre shv (ms.take a₀.toNat)) (ho3 : o3.data = .cell v3) (hw : win fewest most first (a₀ - 1) = [])
    (hE : ∀ e s', ¬ E e s')
    (turn : ∀ shv ns qv ql nq oc v3 i t (u : Str → Option Value) h tk own, i < n → OwnOff own [q, x, dx, sh, l, c3, c2, c1, j] → IntsAre shv (ms.take (a₀.toNat + i)) → IntsAre qv ql → ql = waitP ms (win fewest most first (a₀ + (i : Int) - 1)) → oc.data = .cell v3 →
      Fr h₀ env.locals h (fun y => if y = PySem.Str.ofString "" then u y else if [PySem.Str.ofString "there"].contains y then u y else m₀ y) → News h₀ env.locals h (nearLed q x dx sh l c3 c2 c1 j (nearDict P k1 k2 k3 k4 k5 t1 t2 t3 nd first fewest most sh q) o2 o1 us jv nu nj (shv, ns, qv, ql, nq, oc) ++ own) →
      wpAny (model prog w) A (assign target env (.int (a₀ + (i : Int)) t)) (fun _ s₁ => wpAny (model prog w) A (execs body env) (FreePost h₀ env.locals (nearLed q x dx sh l c3 c2 c1 j (nearDict P k1 k2 k3 k4 k5 t1 t2 t3 nd first fewest most sh q) o2 o1 us jv nu nj) (fun _ => []) (fun st => IntsAre st.2.2.1 st.2.2.2.1) (PySem.Str.ofString "") [PySem.Str.ofString "there"] m₀
        (fun st => IntsAre st.1 (ms.take (a₀.toNat + (i + 1))) ∧ st.2.2.2.1 = waitP ms (win fewest most first (a₀ + ((i + 1 : Nat) : Int) - 1)) ∧ ∃ v3, st.2.2.2.2.2.data = .cell v3) own { s with heap := h, toks := tk } Q) E s₁) E { s with heap := h, toks := tk })
    (done : ∀ shv ns qv nq oc (u : Str → Option Value) h tk, IntsAre shv (ms.take (a₀.toNat + n)) → Fr h₀ env.locals h (fun y => if y = PySem.Str.ofString "" then u y else if [PySem.Str.ofString "there"].contains y then u y else m₀ y) →
      News h₀ env.locals h (nearLed q x dx sh l c3 c2 c1 j (nearDict P k1 k2 k3 k4 k5 t1 t2 t3 nd first fewest most sh q) o2 o1 us jv nu nj (shv, ns, qv, [], nq, oc)) → Q .next { s with heap := h, toks := tk })
    (ht : ∀ v I, letOwnedTupleGo target (.ref I) v = pure () := by intro _ _; rfl) :
    wpAny (model prog w) A (pyIter (.ref r)) (fun it s₂ => ForTail prog w A env target body Q E it s₂) E s := by
  subst hLL
  subst hhp
  have hr := hr9
  have F := F9
  have N := N9
  have hl : ∀ p ∈ nearLed q x dx sh l c3 c2 c1 j (nearDict P k1 k2 k3 k4 k5 t1 t2 t3 nd first fewest most sh q) o2 o1 us jv nu nj (shv, ns, [], [], nq, o3), p ∈ [(q, listOf #[] nq), (x, instObj 40 dx), (dx, nearDict P k1 k2 k3 k4 k5 t1 t2 t3 nd first fewest most sh q), (sh, listOf shv.toArray ns), (l, listOf us.toArray nu), ta, tb, (c3, o3), (c2, o2), (c1, o1), (j, listOf jv.toArray nj)] := by
    dsimp only [nearLed]
    (repeat' (first | exact List.forall_mem_nil _ | refine List.forall_mem_cons.mpr ⟨?_, ?_⟩)) <;> k_memK
  refine for_rangeG (nearLed q x dx sh l c3 c2 c1 j (nearDict P k1 k2 k3 k4 k5 t1 t2 t3 nd first fewest most sh q) o2 o1 us jv nu nj) (fun _ => []) (fun st => IntsAre st.2.2.1 st.2.2.2.1) [PySem.Str.ofString "there"]
    (fun i st => IntsAre st.1 (ms.take (a₀.toNat + i)) ∧ st.2.2.2.1 = waitP ms (win fewest most first (a₀ + (i : Int) - 1)) ∧ ∃ v3, st.2.2.2.2.2.data = .cell v3) (shv, ns, [], [], nq, o3)
    hh hr hsmall hn F (fun p hp => N p (hl p hp)) .nil (List.forall_mem_nil _) ⟨hsh, ?_, v3, ho3⟩ hE ?_ ?_ ht
  · show [] = _
    have e : a₀ + ((0 : Nat) : Int) - 1 = a₀ - 1 := by omega
    rw [e, hw]; rfl
  · rintro ⟨shv, ns, qv, ql, nq, oc⟩ i t u h tk own hi hoff hf ⟨h1, h2, v3, h3⟩ F' N'
    exact turn shv ns qv ql nq oc v3 i t u h tk own hi hoff h1 hf h2 h3 F' N'
  · rintro ⟨shv, ns, qv, ql, nq, oc⟩ u h tk hf ⟨h1, h2, v3, h3⟩ F' N'
    exact done shv ns qv nq oc u h tk h1 F' N'
end
theorem near_growI {ms : List Int} {us : List Value} {b : Int} {i : Nat} (hb : 0 ≤ b) (h : b + (i : Int) < ms.length) (hi : IntsAre us (ms.take (b.toNat + i) ++ [ms.getD (b + (i : Int)).toNat 0])) : IntsAre us (ms.take (b.toNat + (i + 1))) := near_grow hb h ▸ hi
theorem near_stayI {ms : List Int} {us : List Value} {b : Int} {i : Nat} (hb : 0 ≤ b) (h : ¬ b + (i : Int) < ms.length) (hi : IntsAre us (ms.take (b.toNat + i))) : IntsAre us (ms.take (b.toNat + (i + 1))) := near_stay hb h ▸ hi
def nearG (fewest most count : Int) (l : List Int) (k : Int) : List Int := if fewest ≤ count - k ∧ count - k ≤ most then l ++ [k] else l
theorem nearG_pos {fewest most count k : Int} {l : List Int} (h1 : fewest ≤ count - k) (h2 : count - k ≤ most) : nearG fewest most count l k = l ++ [k] := if_pos ⟨h1, h2⟩
theorem nearG_neg1 {fewest most count k : Int} {l : List Int} (h1 : ¬ fewest ≤ count - k) : nearG fewest most count l k = l := if_neg fun h => h1 h.1
theorem nearG_neg2 {fewest most count k : Int} {l : List Int} (h1 : ¬ count - k ≤ most) : nearG fewest most count l k = l := if_neg fun h => h1 h.2
theorem nearG_fold (fewest most count : Int) : ∀ (ks l : List Int), ks.foldl (nearG fewest most count) l = l ++ ks.filter fun p => decide (fewest ≤ count - p) && decide (count - p ≤ most) := by
  intro ks
  induction ks with
  | nil => intro l; simp
  | cons k r ih =>
    intro l
    rw [List.foldl_cons, ih, List.filter_cons]
    by_cases h1 : fewest ≤ count - k
    · by_cases h2 : count - k ≤ most
      · rw [nearG_pos h1 h2, if_pos (by rw [decide_eq_true h1, decide_eq_true h2]; rfl)]; simp
      · rw [nearG_neg2 h2, if_neg (by rw [decide_eq_false h2]; simp)]
    · rw [nearG_neg1 h1, if_neg (by rw [decide_eq_false h1]; simp)]
theorem near_comp {prog : Program} {w : World} {A : Around} {h₀ : Heap} {L : Addr} {m : Str → Option Value} {env : Env} {ct elt : PySem.Expr} {x : Str} {scope : Scope} {cl : List (Str × Addr)} {s : Shared} {S : List (Addr × Obj) → Prop} {Fin : List Value → List (Addr × Obj) → Prop} {news : List (Addr × Obj)}
    {ql ms : List Int} {fewest most first begin_ : Int} {i : Nat} {a : Int} {n : Nat} (hP : ql = waitP ms (win fewest most first (begin_ + (i : Int) - 1))) (ha : a = first) (hn : n = (begin_ + (i : Int) - first).toNat)
    (turn : ∀ k t I oI C oC D m₂ ys l h tk (E' : Value → Shared → Prop), a ≤ k → k < a + (n : Int) → IntsAre ys l → LCg.NsObj oC m₂ → m₂ x = some (.int k t) → Fr h₀ L h m → News h₀ L h ((I, oI) :: (C, oC) :: (D, LCg.lst ys) :: news) → LCg.Off3 I C D news → ((@Ne Nat I C) ∧ (@Ne Nat I D) ∧ (@Ne Nat C D)) → KPfMark →
      wpAny (model prog w) A (isTrue ct (compEnvC scope cl C env) (eval ct (compEnvC scope cl C env))) (fun b s' => if b = true then wpAny (model prog w) A (eval elt (compEnvC scope cl C env)) (LCg.CompEnd h₀ L m { s with heap := h, toks := tk } I oI C oC D (LCg.lst ys) S (fun y news' => KCiEl news l (nearG fewest most (begin_ + (i : Int)) l k) y news')) E' s'
        else LCg.CompEnd h₀ L m { s with heap := h, toks := tk } I oI C oC D (LCg.lst ys) S (fun _ news' => KCiNo news l (nearG fewest most (begin_ + (i : Int)) l k) news') Value.none s') E' { s with heap := h, toks := tk })
    (fin : ∀ ys, IntsAre ys (win fewest most first (begin_ + (i : Int))) → ys.length ≤ n → Fin ys news) : LCt.CompRestT prog w A h₀ L m env ct elt x scope cl s S (fun i v => ∃ t, v = .int (a + (i : Int)) t) Fin n 0 [] news :=
  kci_range (nearG fewest most (begin_ + (i : Int))) turn (fun ys hy hl => fin ys (by
    rw [nearG_fold, List.nil_append] at hy
    subst ha hn
    exact hy) hl) (fun l k => by unfold nearG; split <;> simp)
local macro_rules | `(tactic| k_ne) => `(tactic| (refine neN ?_; (try dsimp only); k_extra "ne"))
section
variable {w : World} {A₀ : Around} {s : Shared} {base h₀ : Heap} {outer : List Env} {L : Addr} {m mg mb : Str → Option Value} {news : List (Addr × Obj)} {loose : List Str} {mean : ExcName → Option Value}
  {dp un : Nat} {gd : Option (List Code)} {cn : Str} {cs : Scope} {a : Addr} {ccd : Value} {cl : List (Str × Addr)} {Q E : Value → Shared → Prop}
theorem nearright_con {j : Addr} {vs : List Value} {n : Nat} {ns : List Int}
    (B : Below A₀ base outer h₀) (F : Fr h₀ L s.heap m) (X₀ : (hd.heap_39 w.params).In h₀) (N : News h₀ L s.heap news) (T : Top hd.view_39 loose mean mg mb h₀)
    (hk : cs.kind = .function) (hdp : dp < 320) (hun : un < 3000)
    (hj : (j, listOf vs.toArray n) ∈ news) (hi : IntsAre vs ns) (hJ : JarOk 100 ns)
    (ret : ∀ vs' n' ns' h' tk', IntsAre vs' ns' → JarOk 400 ns' → Fr h₀ L h' m → (∀ p ∈ news, p.1 ≠ j → At h₀ L h' p) → At h₀ L h' (j, listOf vs'.toArray n') →
      Q (.bool true) { s with heap := h', toks := tk' }) :
    wpAny (model PySem.Challenge.rw_tk0114_01.row.prog w) (ktrTop dp un gd cn cs L a ccd cl outer) (call (.ref 126) [.ref j]) Q E s := by
  walk_at "FILL"
  k_with "ENTER" => (k_dflt (refine' code_sub ?kPost ?k1 ?k2 ?k3 ?k4 ?k5 ?kA ?kF ?kK ?k6 ?k7 ?k8 ?k9 ?kB ?kS ?kBody ?kRet ?c5 ?c2 ?c3 ?c4; (case kA => exact rfl); (case kF => exact rfl); (case kK => k_asm); (case k1 => k_asm); (case k2 => k_asm); (case k3 => k_asm); (case k4 => k_asm); (case k5 => k_asm); (case k6 => k_is); (case k7 => k_is); (case k8 => ktr_room); (case k9 => first | exact BindsTo.of_eq (rfl : bindArgs _ _ = pure [(_, _)]) | exact BindsTo.of_eq (rfl : bindArgs _ _ = pure [(_, _), (_, _)]) | exact BindsTo.of_eq (rfl : bindArgs _ _ = pure [(_, _), (_, _), (_, _)]) | exact BindsTo.of_eq (rfl : bindArgs _ _ = pure [(_, _), (_, _), (_, _), (_, _)]) | exact BindsTo.of_eq (rfl : bindArgs _ _ = pure [(_, _), (_, _), (_, _), (_, _), (_, _)]) | exact BindsTo.of_eq rfl); (case c5 => decide); (case kB => exact locs rfl); (case c2 => exact rfl); (case c3 => exact rfl); (case c4 => exact rfl)))
  k_with "RetP" => (((try dsimp only [flv]); refine RetP.owed (by k_asm) (by k_asm) ?_))
  k_with "newList" => ((k_here; k_dflt (refine' newList_L ?r3_k1 ?r3_k2 ?_; (case r3_k1 => k_asm); (case r3_k2 => k_asm); k_whole); intro r_l' r_h' r_F' r_N' r_l1; (try k_lt r_l1); (try k_sweep)))
  k_with "call builtin:list.append" => ((k_here; (with_reducible show wpAny _ _ (call (Value.builtin _) [Value.ref _, Value.int _ _]) _ _ _); k_dflt (refine' append_ints ?r4_k1 ?r4_k2 (fun o' => ?r4_k3) ?r4_hi ?r4_hl ?_; (case r4_k1 => k_asm); (case r4_k2 => k_asm); (case r4_k3 => k_upd); (case r4_hi => assumption); (case r4_hl => first | omega | (simp only [List.length_append, List.length_cons, List.length_nil] at *; omega)); k_whole); intro r_h' r_us' r_un' r_hI' r_F' r_N'; (try dsimp only at r_N'); (try k_sweep)))
  k_with "FreePost" => ((dsimp only [FreePost]))
  k_with "NOITER" => ((repeat' (first | exact List.forall_mem_nil _ | (refine List.forall_mem_cons.mpr ⟨?_, ?_⟩) | exact noIter_list _ _ | exact noIter_inst _ _ | exact noIter_dict _ _ | exact noIter_tup _ _ | exact noIter_cell (by assumption))))
  k_with "OWNIN" => ((intro r_p r_hp; k_ownIn))
  k_with "subscriptTail" => ((k_here; (with_reducible show wpAny _ _ (subscriptTail _ _ (Value.ref _) (Value.int _ _)) _ _ _); k_dflt (refine' item_bnd ?r8_N ?r8_hm ?r8_hi ?r8_h0 ?r8_h1 ?r8_h2 ?_; (case r8_N => k_asm); (case r8_hm => k_mem); (case r8_hi => assumption); (case r8_h0 => first | omega | k_extra "low"); (case r8_h1 => first | omega | k_extra "high"); (case r8_h2 => omega)); intro r_t'))
  k_with "ENTERC" => (k_dflt (refine' code_subC ?kPost ?k1 ?k2 ?k3 ?k4 ?k5 ?kA ?kF ?kK ?k6 ?k7 ?k8 ?k9 ?kB ?kD ?kS ?kBody ?kRet ?c2 ?c3 ?c4; (case kA => exact rfl); (case kF => exact rfl); (case kK => k_asm); (case k1 => k_asm); (case k2 => k_asm); (case k3 => k_asm); (case k4 => k_asm); (case k5 => k_asm); (case k6 => k_is); (case k7 => k_is); (case k8 => ktr_room); (case k9 => first | exact BindsTo.of_eq (rfl : bindArgs _ _ = pure [(_, _)]) | exact BindsTo.of_eq (rfl : bindArgs _ _ = pure [(_, _), (_, _)]) | exact BindsTo.of_eq (rfl : bindArgs _ _ = pure [(_, _), (_, _), (_, _)]) | exact BindsTo.of_eq (rfl : bindArgs _ _ = pure [(_, _), (_, _), (_, _), (_, _)]) | exact BindsTo.of_eq (rfl : bindArgs _ _ = pure [(_, _), (_, _), (_, _), (_, _), (_, _)]) | exact BindsTo.of_eq rfl); (case kB => exact rfl); (case kD => decide +kernel); (case c2 => exact rfl); (case c3 => exact rfl); (case c4 => exact rfl)))
  k_with "GROUNDC" => ((intro r_g' r_L' r_h' r_tk' r_cells' r_F' r_N' r_Y' r_l1 r_B' r_X' r_T' r_lN; k_lt r_l1; k_cells r_Y'; (try simp only [List.cons_append, List.nil_append] at r_N'); (try dsimp only)))
  k_with "call ref" => ((k_here; (with_reducible show wpAny _ _ (call (Value.ref 100) [Value.ref _, Value.int _ _]) _ _ _); k_dflt (refine' take_use ?r17_B ?r17_F ?r17_X ?r17_N ?r17_T ?r17_hk ?r17_hd ?r17_hu (fun o' => ?r17_U) ?r17_hi ?r17_hJ ?r17_hb ?r17_h5 ?r17_h6 ?_; (case r17_B => k_asm); (case r17_F => k_asm); (case r17_X => k_asm); (case r17_N => k_asm); (case r17_T => k_asm); (case r17_hk => first | exact rfl | assumption); (case r17_hd => ktr_room); (case r17_hu => ktr_units); (case r17_U => k_upd); (case r17_hi => assumption); (case r17_hJ => assumption); (case r17_hb => omega); (case r17_h5 => omega); (case r17_h6 => omega)); intro r_d' r_t' r_vs' r_n' r_ns' r_h' r_tk' r_hd1' r_hd2' r_hI' r_hJ' r_F' r_N'; (try dsimp only at r_N'); (try k_sweep)))
  k_with "call ref" => ((k_here; (with_reducible show wpAny _ _ (call (Value.ref 107) [Value.ref _]) _ _ _); k_dflt (refine' costs_use ?r18_B ?r18_F ?r18_X ?r18_N ?r18_T ?r18_hk ?r18_hd ?r18_hu (fun o' => ?r18_U) ?r18_hi ?r18_hJ ?r18_hb ?_; (case r18_B => k_asm); (case r18_F => k_asm); (case r18_X => k_asm); (case r18_N => k_asm); (case r18_T => k_asm); (case r18_hk => first | exact rfl | assumption); (case r18_hd => ktr_room); (case r18_hu => ktr_units); (case r18_U => k_upd); (case r18_hi => assumption); (case r18_hJ => assumption); (case r18_hb => omega)); intro r_l' r_us' r_ms' r_k' r_vs' r_n' r_ns' r_h' r_tk' r_l1 r_hI' r_hm8' r_hm20' r_hJ'' r_hJ' r_F' r_N'; (try k_lt r_l1); (try dsimp only at r_N'); (try k_sweep)))
  k_with "call ref" => ((k_here; (with_reducible show wpAny _ _ (call (Value.ref 114) [Value.ref _, Value.ref _]) _ _ _); k_dflt (refine' latest_con ?r19_B ?r19_F ?r19_X ?r19_N ?r19_T ?r19_hk ?r19_hd ?r19_hu ?r19_hc ?r19_ht ?r19_ci ?r19_ti ?r19_b1 ?r19_b2 ?_; (case r19_B => k_asm); (case r19_F => k_asm); (case r19_X => k_asm); (case r19_N => k_asm); (case r19_T => k_asm); (case r19_hk => first | exact rfl | assumption); (case r19_hd => ktr_room); (case r19_hu => ktr_units); (case r19_hc => k_mem); (case r19_ht => k_mem); (case r19_ci => assumption); (case r19_ti => assumption); (case r19_b1 => k_extra "there"); (case r19_b2 => omega)); intro r_v' r_h' r_tk' r_hv' r_F' r_N'; (try k_sweep); k_extra "latest"))
  k_with "call ref" => ((k_here; (with_reducible show wpAny _ _ (call (Value.ref 121) [Value.ref _, Value.ref _]) _ _ _); k_dflt (refine' waiting_con ?r20_B ?r20_F ?r20_X ?r20_N ?r20_T ?r20_hk ?r20_hd ?r20_hu ?r20_hc ?r20_ht ?r20_ci ?r20_ti ?r20_b1 ?r20_b2 ?r20_b3 ?_; (case r20_B => k_asm); (case r20_F => k_asm); (case r20_X => k_asm); (case r20_N => k_asm); (case r20_T => k_asm); (case r20_hk => first | exact rfl | assumption); (case r20_hd => ktr_room); (case r20_hu => ktr_units); (case r20_hc => k_mem); (case r20_ht => k_mem); (case r20_ci => assumption); (case r20_ti => assumption); (case r20_b1 => k_extra "there"); (case r20_b2 => omega); (case r20_b3 => first | omega | k_extra "therelen")); intro r_f' r_fvs' r_nf' r_h' r_tk' r_l1 r_hI' r_F' r_N'; (try simp only [List.forall_mem_cons] at r_l1); (try k_sweep); (try k_extra "waited")))
  k_with "call ref" => ((k_here; (with_reducible show wpAny _ _ (call (Value.ref 37) [Value.ref _, Value.int _ _]) _ _ _); (try k_extra "ahead"); k_dflt (refine' at_use ?r21_B ?r21_F ?r21_X ?r21_N ?r21_T ?r21_hk ?r21_hd ?r21_hu ?r21_hx ?r21_hdx ?r21_hc (fun o' => ?r21_U) ?r21_n1 ?r21_n2 ?r21_n3 ?r21_qi ?r21_ci ?r21_b0 ?r21_b1 ?r21_b2 ?r21_b3 ?r21_b4 ?r21_b5 ?_ ?_; (case r21_B => k_asm); (case r21_F => k_asm); (case r21_X => k_asm); (case r21_N => k_asm); (case r21_T => k_asm); (case r21_hk => first | exact rfl | assumption); (case r21_hd => ktr_room); (case r21_hu => ktr_units); (case r21_hx => k_mem); (case r21_hdx => k_mem); (case r21_hc => k_mem); (case r21_U => k_upd); (case r21_n1 => omega); (case r21_n2 => omega); (case r21_n3 => omega); (case r21_qi => assumption); (case r21_ci => assumption); (case r21_b0 => omega); (case r21_b1 => omega); (case r21_b2 => first | omega | k_extra "fresh"); (case r21_b3 => first | assumption | k_extra "queue"); (case r21_b4 => first | omega | k_extra "qlen"); (case r21_b5 => omega)); k_extra "at"))
  k_with "call ref" => ((k_here; (with_reducible show wpAny _ _ (call (Value.ref 40) [Value.int _ _, Value.int _ _, Value.ref _, Value.int _ _]) _ _ _); k_dflt (refine near_new4 (by k_asm) (by k_asm) (by k_asm) (by k_asm) (by k_asm) (by first | exact rfl | assumption) (by ktr_room) (by first | ktr_units | (simp only [units_under_make]; ktr_units)) ?_); intro r_x' r_d' r_q' r_k1' r_k2' r_k3' r_k4' r_k5' r_t1' r_t2' r_t3' r_nd' r_nq' r_h' r_tk' r_l1 r_l2 r_l3 r_F' r_N'; (try k_lt r_l1); (try k_sweep)))
  k_with "call ref" => ((k_here; (with_reducible show wpAny _ _ (call (Value.ref 40) [Value.int _ _, Value.int _ _, Value.ref _]) _ _ _); k_dflt (refine near_new3 (by k_asm) (by k_asm) (by k_asm) (by k_asm) (by k_asm) (by first | exact rfl | assumption) (by ktr_room) (by first | ktr_units | (simp only [units_under_make]; ktr_units)) ?_); intro r_x' r_d' r_q' r_k1' r_k2' r_k3' r_k4' r_k5' r_t1' r_t2' r_t3' r_nd' r_nq' r_h' r_tk' r_l1 r_l2 r_l3 r_F' r_N'; (try k_lt r_l1); (try k_sweep)))
  k_with "CompSrcT" => ((k_here; k_extra "COMP"))
  k_with "CompEnd" => ((k_here; refine LCg.CompEnd.intro (by assumption) (by assumption) _ (fun p hp => hp) (by assumption) trivial ?_))
  k_with "KCiEl" => (exact kci_el (nearG_pos (by assumption) (by assumption)) rfl rfl)
  k_with "KCiNo" => (first | exact kci_no (nearG_neg1 (by assumption)) rfl | exact kci_no (nearG_neg2 (by assumption)) rfl)
  k_with "FreeEnd" => (((rename News _ _ _ _ => r_nE'); (refine' free_end ⟨_, _, _, _, _, _⟩ (by assumption) r_nE' ?r28_hn ?r28_ho ?r28_hi ?r28_hf ?r28_hk ?r28_hr ?_); (case r28_hk => kst_all); (case r28_hn => (dsimp only [nearLed]; kst_in)); (case r28_ho => walk_at "OWNIN"); (case r28_hi => (dsimp only [nearLed]; walk_at "NOITER")); (case r28_hf => kst_facts); (case r28_hr => kst_same); refine Owed.out ?_))
  refine wpAny_call ?_
  walk_at "ENTERC"
  case kS => exact fun p hp => (List.mem_singleton.mp hp) ▸ hj
  case kPost => exact fun L' v sub' => ∃ vs' n' ns', v = .bool true ∧ sub' = [(j, listOf vs'.toArray n')] ∧ IntsAre vs' ns' ∧ JarOk 400 ns'
  case kRet =>
    rintro L' r sub' h' tk' hlt F' hs hn _ ⟨vs', n', ns', rfl, rfl, a1, a2⟩
    refine ret vs' n' ns' h' tk' a1 a2 F' (fun p hp hq => hn p hp fun q hq' => ?_) (hs _ (.head _))
    rw [List.mem_singleton.mp hq']; exact hq
  case kBody =>
    clear ret B F X₀ N T hj
    walk_at "GROUNDC"
    show wpAny _ _ _ _ _ _
    k_fold
    k_with "ne" => first | exact hNe2.out.1 | exact hNe2.out.2.1 | exact hNe2.out.2.2.1 | exact hNe2.out.2.2.2.1 | exact hNe2.out.2.2.2.2.1 | exact hNe2.out.2.2.2.2.2.1 | exact hNe2.out.2.2.2.2.2.2.1 | exact hNe2.out.2.2.2.2.2.2.2.1 | exact hNe2.out.2.2.2.2.2.2.2.2.1 | exact hNe2.out.2.2.2.2.2.2.2.2.2.1 | exact hNe2.out.2.2.2.2.2.2.2.2.2.2.1 | exact hNe2.out.2.2.2.2.2.2.2.2.2.2.2.1 | exact hNe2.out.2.2.2.2.2.2.2.2.2.2.2.2.1 | exact hNe2.out.2.2.2.2.2.2.2.2.2.2.2.2.2.1 | exact Ne.symm hNe2.out.1 | exact Ne.symm hNe2.out.2.1 | exact Ne.symm hNe2.out.2.2.1 | exact Ne.symm hNe2.out.2.2.2.1 | exact Ne.symm hNe2.out.2.2.2.2.1 | exact Ne.symm hNe2.out.2.2.2.2.2.1 | exact Ne.symm hNe2.out.2.2.2.2.2.2.1 | exact Ne.symm hNe2.out.2.2.2.2.2.2.2.1 | exact Ne.symm hNe2.out.2.2.2.2.2.2.2.2.1 | exact Ne.symm hNe2.out.2.2.2.2.2.2.2.2.2.1 | exact Ne.symm hNe2.out.2.2.2.2.2.2.2.2.2.2.1 | exact Ne.symm hNe2.out.2.2.2.2.2.2.2.2.2.2.2.1 | exact Ne.symm hNe2.out.2.2.2.2.2.2.2.2.2.2.2.2.1 | exact Ne.symm hNe2.out.2.2.2.2.2.2.2.2.2.2.2.2.2.1 | exact hNe1.out.1 | exact hNe1.out.2.1 | exact hNe1.out.2.2.1 | exact hNe1.out.2.2.2.1 | exact hNe1.out.2.2.2.2.1 | exact hNe1.out.2.2.2.2.2.1 | exact hNe1.out.2.2.2.2.2.2.1 | exact hNe1.out.2.2.2.2.2.2.2.1 | exact hNe1.out.2.2.2.2.2.2.2.2.1 | exact hNe1.out.2.2.2.2.2.2.2.2.2.1 | exact hNe1.out.2.2.2.2.2.2.2.2.2.2.1 | exact hNe1.out.2.2.2.2.2.2.2.2.2.2.2.1 | exact hNe1.out.2.2.2.2.2.2.2.2.2.2.2.2.1 | exact hNe1.out.2.2.2.2.2.2.2.2.2.2.2.2.2.1 | exact Ne.symm hNe1.out.1 | exact Ne.symm hNe1.out.2.1 | exact Ne.symm hNe1.out.2.2.1 | exact Ne.symm hNe1.out.2.2.2.1 | exact Ne.symm hNe1.out.2.2.2.2.1 | exact Ne.symm hNe1.out.2.2.2.2.2.1 | exact Ne.symm hNe1.out.2.2.2.2.2.2.1 | exact Ne.symm hNe1.out.2.2.2.2.2.2.2.1 | exact Ne.symm hNe1.out.2.2.2.2.2.2.2.2.1 | exact Ne.symm hNe1.out.2.2.2.2.2.2.2.2.2.1 | exact Ne.symm hNe1.out.2.2.2.2.2.2.2.2.2.2.1 | exact Ne.symm hNe1.out.2.2.2.2.2.2.2.2.2.2.2.1 | exact Ne.symm hNe1.out.2.2.2.2.2.2.2.2.2.2.2.2.1 | exact Ne.symm hNe1.out.2.2.2.2.2.2.2.2.2.2.2.2.2.1 | omega
    k_with "ahead" => ((rename (_ ≠ _ ∧ _) => hNe1); replace hNe1 := Owed.mk hNe1)
    k_with "waited" => ((rename (_ ≠ _ ∧ _) => hNe2); replace hNe2 := Owed.mk hNe2)
    k_with "fresh" => (rw [hlen9]; omega)
    k_with "queue" => (rw [hlen9]; exact near_queue hP (by omega) (by omega) (by omega))
    k_with "qlen" => exact near_qlen hP (by omega)
    k_with "there" => exact near_there (by omega) hle9 (by omega)
    k_with "therelen" => exact near_therelen (by omega)
    k_with "latest" => ((rename OptVal _ _ => hv8); first | (have e8 := hv8.none (near_latN hlt8); subst e8; clear hv8) | (obtain ⟨t8, e8⟩ := hv8.some (at_lat _ (by omega) hge8 (by omega)); subst e8; clear hv8); (try k_fold))
    k_with "at" => ((intro h8 tk8 hlt8 F8 N8; (try dsimp only at N8); have hq8 := near_qN hP hlt8; (try k_sweep); (try k_fold)); rotate_left; (intro h8 tk8 t8 qs8 nq8 hge8 hq8 F8 N8; rw [near_at hP (by omega) (by omega) hge8 (by omega) (by omega)] at hq8 ⊢; (try dsimp only at N8); (try k_sweep); (try k_fold)))
    k_with "COMP" => (k_dflt (refine LCt.CompSrcT.range (by rfl) (by k_asm) (by k_asm) (by assumption) (small_one (by omega) (by omega) (by omega) (by omega)) (rangeSize_nat _ _) (by rw [PySem.sizeLine_eq]; omega) ?_; intro g9; refine near_comp hP rfl rfl (fun k9 t9 I9 oI9 C9 oC9 D9 m9 ys9 l9 h9 tk9 E9 hlo9 hhi9 hI9 hC9 hx9 F9 N9 off9 ne9 hM9 => ?_) (fun ys9 hys9 hylen9 => ?_)); (all_goals (try k_fold)))
    k_with "exec For Name Call cons nil" => (k_of "count" => (k_here; refine For_tail ?_))
    k_with "pyIter ref" => (
      (rename Fr _ _ _ _ => lF'); (rename News _ _ _ _ => lN'); (rename IsRange _ _ _ _ _ _ _ _ => rgX);
      (k_dflt (refine' near_loop lF' lN' rgX rfl rfl rfl (small_one (by omega) (by omega) (by omega) (by omega)) (rangeSize_nat _ _) (by assumption) (by k_asm) ?hw (fun _ _ h => h) ?turn ?done));
      clear lF' lN';
      (case' hw => exact win_nil (by omega));
      (case' turn => (
        intro shv ns9 qv ql nq oc v3 i t u h tk own hi9 hoff hsh hql hP hoc kFr kNews;
        obtain ⟨hlen9, hle9⟩ := near_tl (b := _) hi9 (by omega);
        (try dsimp only [List.map_cons, List.map_nil] at hoff);
        (try dsimp only [nearLed] at kNews);
        (try simp only [List.nil_append, List.cons_append] at kNews);
        (try k_fold)));
      (case' done => (
        intro shv ns9 qv nq oc u h tk hsh kFr kNews;
        rw [take_all (by omega)] at hsh;
        (try dsimp only [nearLed] at kNews);
        (try k_fold)))
      )
    k_steps
    all_goals first
      | exact ⟨⟨[(j, _)], List.forall_mem_cons.mpr ⟨by k_memK, List.forall_mem_nil _⟩, _, _, _, rfl, rfl, by assumption, by assumption⟩⟩
      | ((rename (@Ne Int _ _) => hne8); exact absurd rfl hne8)
      | exact ⟨⟨near_growI (by omega) (by omega) (by assumption), near_next, _, by assumption⟩⟩
      | exact ⟨⟨near_stayI (by omega) (by omega) (by assumption), near_next, _, by assumption⟩⟩
      | exact ⟨⟨near_growI (by omega) (by omega) (by assumption), hq8.trans near_next, _, by assumption⟩⟩
      | exact ⟨⟨near_stayI (by omega) (by omega) (by assumption), hq8.trans near_next, _, by assumption⟩⟩
end

end
section
def MaxOf (v a b : Int) : Prop := v = if b > a then b else a
/-- what one choice of pieces adds to the list of _law_fewest -/
def fwAl (nt many l s a : Int) : Int := if 0 < nt ∧ 0 < a ∧ l + s + (if many - 138 * l - 10 * s - 6 * a > 0 then many - 138 * l - 10 * s - 6 * a else 0) = 0 then 1 else (if many - 138 * l - 10 * s - 6 * a > 0 then many - 138 * l - 10 * s - 6 * a else 0)
def fwItem (nt many p0 p1 p2 p3 l s a : Int) : List Int :=
  if 11 * l + 3 * s + 3 * a + fwAl nt many l s a ≤ many then [fwAl nt many l s a * p0 + a * p1 + s * p2 + l * p3] else []
def fw3 (nt many p0 p1 p2 p3 l s : Int) : List Int := (rangeKs 0 ((many - 11 * l - 3 * s).fdiv 3 + 1 - 0).toNat).flatMap (fwItem nt many p0 p1 p2 p3 l s)
def fw2 (nt many p0 p1 p2 p3 l : Int) : List Int := (rangeKs 0 ((nt * (many - 11 * l)).fdiv 3 + 1 - 0).toNat).flatMap (fw3 nt many p0 p1 p2 p3 l)
def fw1 (nt many p0 p1 p2 p3 : Int) : List Int := (rangeKs 0 ((nt * many).fdiv 11 + 1 - 0).toNat).flatMap (fw2 nt many p0 p1 p2 p3)
theorem fwAl_same {nt many l s a al : Int} (hM : MaxOf al 0 (many - 138 * l - 10 * s - 6 * a)) (hn : ¬ (0 < nt ∧ 0 < a ∧ l + s + al = 0)) : fwAl nt many l s a = al := by
  unfold MaxOf at hM; unfold fwAl; rw [← hM, if_neg hn]
theorem fwAl_one {nt many l s a al : Int} (hM : MaxOf al 0 (many - 138 * l - 10 * s - 6 * a)) (hn : 0 < nt ∧ 0 < a ∧ l + s + al = 0) : fwAl nt many l s a = 1 := by
  unfold MaxOf at hM; unfold fwAl; rw [← hM, if_pos hn]
theorem few_yes {nt many p0 p1 p2 p3 l s a al : Int} {fd f0 pre : List Int} (e : fwAl nt many l s a = al) (hc : 11 * l + 3 * s + 3 * a + al ≤ many) (hP : fd = f0 ++ pre.flatMap (fwItem nt many p0 p1 p2 p3 l s)) (hl : fd.length ≤ f0.length + pre.length) :
    fd ++ [al * p0 + a * p1 + s * p2 + l * p3] = f0 ++ (pre ++ [a]).flatMap (fwItem nt many p0 p1 p2 p3 l s) ∧ (fd ++ [al * p0 + a * p1 + s * p2 + l * p3]).length ≤ f0.length + (pre ++ [a]).length := by
  have e1 : fwItem nt many p0 p1 p2 p3 l s a = [al * p0 + a * p1 + s * p2 + l * p3] := by unfold fwItem; rw [e, if_pos hc]
  constructor
  · rw [hP, List.flatMap_append, List.flatMap_singleton, e1, List.append_assoc]
  · simp only [List.length_append, List.length_singleton]; omega
theorem few_no {nt many p0 p1 p2 p3 l s a al : Int} {fd f0 pre : List Int} (e : fwAl nt many l s a = al) (hc : ¬ 11 * l + 3 * s + 3 * a + al ≤ many) (hP : fd = f0 ++ pre.flatMap (fwItem nt many p0 p1 p2 p3 l s)) (hl : fd.length ≤ f0.length + pre.length) :
    fd = f0 ++ (pre ++ [a]).flatMap (fwItem nt many p0 p1 p2 p3 l s) ∧ fd.length ≤ f0.length + (pre ++ [a]).length := by
  have e1 : fwItem nt many p0 p1 p2 p3 l s a = [] := by unfold fwItem; rw [e, if_neg hc]
  constructor
  · rw [List.flatMap_append, List.flatMap_singleton, e1, List.append_nil]; exact hP
  · simp only [List.length_append, List.length_singleton]; omega
theorem few_alen {n f0 f00 a b c : Nat} {x1 x2 x3 : Int} (h1 : n ≤ f0 + a) (h2 : f0 ≤ f00 + 30 * b) (h3 : f00 ≤ 1000 * c) (k1 : a < (x1 + 1 - 0).toNat) (k2 : b < (x2 + 1 - 0).toNat) (k3 : c < (x3 + 1 - 0).toNat) (y1 : x1 ≤ 20) (y2 : x2 ≤ 20) (y3 : x3 ≤ 20) : n ≤ 100000 := by omega
theorem few_fd {x k : Int} (hk : k = 3 ∨ k = 11) (h : x ≤ 20) : x.fdiv k ≤ 20 := by
  rcases hk with rfl | rfl
  · rw [Int.fdiv_eq_ediv_of_nonneg _ (by omega)]; omega
  · rw [Int.fdiv_eq_ediv_of_nonneg _ (by omega)]; omega
theorem max_gen {prog : Program} {w : World} {A : Around} {s : Shared} {h₀ : Heap} {L : Addr} {m : Str → Option Value} {news : List (Addr × Obj)} {Q E : Value → Shared → Prop} {a b : Int} {t u : Tok} (hh : A.handled = none) (F : Fr h₀ L s.heap m) (N : News h₀ L s.heap news)
    (h : ∀ v t' h' tk, MaxOf v a b → Fr h₀ L h' m → News h₀ L h' news → Q (.int v t') { s with heap := h', toks := tk }) : wpAny (model prog w) A (call (.builtin "max") [.int a t, .int b u]) Q E s :=
  max_two_N hh F N fun h' tk F' N' => h _ _ h' tk rfl F' N'
theorem few_n3 {many l s : Int} {pl ps : Nat} (hm : many ≤ 20) (hl : l = 0 + (pl : Int)) (hs : s = 0 + (ps : Int)) : ((many - 11 * l - 3 * s).fdiv 3 + 1 - 0).toNat ≤ 21 := by
  have := few_fd (k := 3) (x := many - 11 * l - 3 * s) (.inl rfl) (by omega)
  omega
theorem few_n2 {nt many l : Int} {pl : Nat} (h01 : nt = 0 ∨ nt = 1) (hm : many ≤ 20) (hl : l = 0 + (pl : Int)) : ((nt * (many - 11 * l)).fdiv 3 + 1 - 0).toNat ≤ 21 := by
  have := few_fd (k := 3) (x := nt * (many - 11 * l)) (.inl rfl) (by rcases h01 with rfl | rfl <;> omega)
  omega
theorem few_l2 {nt many p0 p1 p2 p3 l s : Int} {pl ps : Nat} {fd f0 f4 pre : List Int} (hm : many ≤ 20) (hl : l = 0 + (pl : Int)) (hs : s = 0 + (ps : Int)) (h1 : fd = f0 ++ (rangeKs 0 ((many - 11 * l - 3 * s).fdiv 3 + 1 - 0).toNat).flatMap (fwItem nt many p0 p1 p2 p3 l s))
    (h2 : fd.length ≤ f0.length + (rangeKs 0 ((many - 11 * l - 3 * s).fdiv 3 + 1 - 0).toNat).length) (h3 : f0 = f4 ++ pre.flatMap (fw3 nt many p0 p1 p2 p3 l)) (h4 : f0.length ≤ f4.length + 30 * pre.length) :
    fd = f4 ++ (pre ++ [s]).flatMap (fw3 nt many p0 p1 p2 p3 l) ∧ fd.length ≤ f4.length + 30 * (pre ++ [s]).length := by
  have hn := few_n3 hm hl hs
  rw [rangeKs_length] at h2
  constructor
  · rw [h1, h3, List.flatMap_append, List.flatMap_singleton, List.append_assoc]; rfl
  · simp only [List.length_append, List.length_singleton]; omega
theorem few_l1 {nt many p0 p1 p2 p3 l : Int} {pl : Nat} {fd f0 pre : List Int} (h01 : nt = 0 ∨ nt = 1) (hm : many ≤ 20) (hl : l = 0 + (pl : Int)) (h1 : fd = f0 ++ (rangeKs 0 ((nt * (many - 11 * l)).fdiv 3 + 1 - 0).toNat).flatMap (fw3 nt many p0 p1 p2 p3 l))
    (h2 : fd.length ≤ f0.length + 30 * (rangeKs 0 ((nt * (many - 11 * l)).fdiv 3 + 1 - 0).toNat).length) (h3 : f0 = pre.flatMap (fw2 nt many p0 p1 p2 p3)) (h4 : f0.length ≤ 1000 * pre.length) :
    fd = (pre ++ [l]).flatMap (fw2 nt many p0 p1 p2 p3) ∧ fd.length ≤ 1000 * (pre ++ [l]).length := by
  have hn := few_n2 h01 hm hl
  rw [rangeKs_length] at h2
  constructor
  · rw [h1, h3, List.flatMap_append, List.flatMap_singleton]; rfl
  · simp only [List.length_append, List.length_singleton]; omega

end
section
section
variable {prog : Program} {w : World} {A : Around} {s : Shared} {h₀ : Heap} {L : Addr} {m : Str → Option Value} {news : List (Addr × Obj)} {Q E : Value → Shared → Prop}
theorem item_lit {value slice : PySem.Expr} {l : Addr} {vs : List Value} {n : Nat} {ns : List Int} {k v : Int} {u : Tok} (N : News h₀ L s.heap news) (hm : (l, listOf vs.toArray n) ∈ news) (hi : IntsAre vs ns) (h0 : 0 ≤ k) (h1 : k < 1000) (he : ns[k.toNat]? = some v)
    (h : ∀ t, Q (.int v t) s)
    (hs : subscripted slice false (.ref l) (.int k u) = operate [.ref l, .int k u] (getItem (.ref l) (.int k u)) := by with_unfolding_all rfl) :
    wpAny (model prog w) A (subscriptTail value slice (.ref l) (.int k u)) Q E s := by
  have hl : s.heap.IsList l vs.toArray := News.isList N hm
  obtain ⟨t, ht⟩ := hi.get k.toNat v he
  exact tail_any hl.typeIs slot_list_getitem.lookup (wpAny_getItem_list hl h0 (by omega) (by simpa using ht) (h t)) hs
end
theorem maxof_bnd {v b : Int} (h : MaxOf v 0 b) (hb : b ≤ 20) : 0 ≤ v ∧ v ≤ 20 := by
  unfold MaxOf at h; subst h; split <;> omega
theorem mul_small {a b : Int} (h1 : -1000 ≤ a) (h2 : a ≤ 1000) : IntMulOk a b := by mul_fits
theorem few_nt {nt x : Int} (h01 : Owed (nt = 0 ∨ nt = 1)) (h1 : -1000 ≤ x) (h2 : x ≤ 20) : -1000 ≤ nt * x ∧ nt * x ≤ 20 := by
  rcases h01.out with rfl | rfl
  · rw [Int.zero_mul]; decide
  · rw [Int.one_mul]; exact ⟨h1, h2⟩
section
variable {prog : Program} {w : World} {A : Around} {s : Shared} {Q E : Value → Shared → Prop}
theorem mul_nt {nt x : Int} {t u : Tok} (h01 : Owed (nt = 0 ∨ nt = 1)) (h1 : -1000 ≤ x) (h2 : x ≤ 20) (h : (-1000 ≤ nt * x ∧ nt * x ≤ 20) → Q (.int (nt * x) s.toks) { s with toks := s.toks + 1 }) : wpAny (model prog w) A (binaryOp .Mult (.int nt t) (.int x u)) Q E s :=
  mul_int (h (few_nt h01 h1 h2)) (mul_small (by rcases h01.out with rfl | rfl <;> decide) (by rcases h01.out with rfl | rfl <;> decide))
end
theorem few_pos {nt many p0 p1 p2 p3 : Int} {fs : List Int} (e : fs = fw1 nt many p0 p1 p2 p3) (hne : fw1 nt many p0 p1 p2 p3 ≠ []) : 0 < fs.length := by
  subst e; exact List.length_pos_iff.mpr hne
theorem few_in {nt many p0 p1 p2 p3 M : Int} {fs : List Int} (e : fs = fw1 nt many p0 p1 p2 p3) (h : M ∈ fs) : M ∈ fw1 nt many p0 p1 p2 p3 := e ▸ h
theorem few_least {nt many p0 p1 p2 p3 M : Int} {fs : List Int} (e : fs = fw1 nt many p0 p1 p2 p3) (h : ∀ a, a ∈ fs → M ≤ a) : ∀ a ∈ fw1 nt many p0 p1 p2 p3, M ≤ a := e ▸ h
theorem few_s0 (f : List Int) (g : Int → List Int) (c : Nat) : f = f ++ [].flatMap g ∧ f.length ≤ f.length + c * ([] : List Int).length := by simp
theorem few_s1 (f : List Int) (g : Int → List Int) : f = f ++ [].flatMap g ∧ f.length ≤ f.length + ([] : List Int).length := by simp
section
variable {w : World} {A₀ : Around} {s : Shared} {base h₀ : Heap} {outer : List Env} {L : Addr} {m mg mb : Str → Option Value} {news : List (Addr × Obj)} {loose : List Str} {mean : ExcName → Option Value}
  {dp un : Nat} {gd : Option (List Code)} {cn : Str} {cs : Scope} {a : Addr} {ccd : Value} {cl : List (Str × Addr)} {Q E : Value → Shared → Prop}
theorem fewest_con {pr : Addr} {pvs : List Value} {np : Nat} {len many p0 p1 p2 p3 nt : Int} {tl tm : Tok}
    (B : Below A₀ base outer h₀) (F : Fr h₀ L s.heap m) (X₀ : (hd.heap_39 w.params).In h₀) (N : News h₀ L s.heap news) (T : Top hd.view_39 loose mean mg mb h₀)
    (hk : cs.kind = .function) (hdp : dp < 400) (hun : un < 4000)
    (hp : (pr, listOf pvs.toArray np) ∈ news) (hpi : IntsAre pvs [p0, p1, p2, p3])
    (b1 : 0 ≤ many ∧ many ≤ 20) (b2 : 0 ≤ p0 ∧ p0 ≤ 40 ∧ 0 ≤ p1 ∧ p1 ≤ 40 ∧ 0 ≤ p2 ∧ p2 ≤ 40 ∧ 0 ≤ p3 ∧ p3 ≤ 40) (hnt : (if (len == 0) = true then (1 : Int) else 0) = nt) (h01 : nt = 0 ∨ nt = 1) (hne : fw1 nt many p0 p1 p2 p3 ≠ [])
    (ret : ∀ v t h' tk', v ∈ fw1 nt many p0 p1 p2 p3 → (∀ x ∈ fw1 nt many p0 p1 p2 p3, v ≤ x) → Fr h₀ L h' m → News h₀ L h' news → Q (.int v t) { s with heap := h', toks := tk' }) :
    wpAny (model PySem.Challenge.rw_tk0114_01.row.prog w) (ktrTop dp un gd cn cs L a ccd cl outer) (call (.ref 133) [.int len tl, .ref pr, .int many tm]) Q E s := by
  walk_at "FILL"
  k_with "ENTER" => (k_dflt (refine' code_sub ?kPost ?k1 ?k2 ?k3 ?k4 ?k5 ?kA ?kF ?kK ?k6 ?k7 ?k8 ?k9 ?kB ?kS ?kBody ?kRet ?c5 ?c2 ?c3 ?c4; (case kA => exact rfl); (case kF => exact rfl); (case kK => k_asm); (case k1 => k_asm); (case k2 => k_asm); (case k3 => k_asm); (case k4 => k_asm); (case k5 => k_asm); (case k6 => k_is); (case k7 => k_is); (case k8 => ktr_room); (case k9 => first | exact BindsTo.of_eq (rfl : bindArgs _ _ = pure [(_, _)]) | exact BindsTo.of_eq (rfl : bindArgs _ _ = pure [(_, _), (_, _)]) | exact BindsTo.of_eq (rfl : bindArgs _ _ = pure [(_, _), (_, _), (_, _)]) | exact BindsTo.of_eq (rfl : bindArgs _ _ = pure [(_, _), (_, _), (_, _), (_, _)]) | exact BindsTo.of_eq (rfl : bindArgs _ _ = pure [(_, _), (_, _), (_, _), (_, _), (_, _)]) | exact BindsTo.of_eq rfl); (case c5 => decide); (case kB => exact locs rfl); (case c2 => exact rfl); (case c3 => exact rfl); (case c4 => exact rfl)))
  k_with "RetP" => (((try dsimp only [flv]); refine RetP.owed (by k_asm) (by k_asm) ?_))
  k_with "newList" => ((k_here; k_dflt (refine' newList_L ?r3_k1 ?r3_k2 ?_; (case r3_k1 => k_asm); (case r3_k2 => k_asm); k_whole); intro r_l' r_h' r_F' r_N' r_l1; (try k_lt r_l1); (try k_sweep)))
  k_with "call builtin:list.append" => ((k_here; (with_reducible show wpAny _ _ (call (Value.builtin _) [Value.ref _, Value.int _ _]) _ _ _); k_dflt (refine' append_ints ?r4_k1 ?r4_k2 (fun o' => ?r4_k3) ?r4_hi ?r4_hl ?_; (case r4_k1 => k_asm); (case r4_k2 => k_asm); (case r4_k3 => k_upd); (case r4_hi => assumption); (case r4_hl => first | omega | (simp only [List.length_append, List.length_cons, List.length_nil] at *; omega)); k_whole); intro r_h' r_us' r_un' r_hI' r_F' r_N'; (try dsimp only at r_N'); (try k_sweep)))
  k_with "FreePost" => ((dsimp only [FreePost]))
  k_with "NOITER" => ((repeat' (first | exact List.forall_mem_nil _ | (refine List.forall_mem_cons.mpr ⟨?_, ?_⟩) | exact noIter_list _ _ | exact noIter_inst _ _ | exact noIter_dict _ _ | exact noIter_tup _ _ | exact noIter_cell (by assumption))))
  k_with "OWNIN" => ((intro r_p r_hp; k_ownIn))
  k_with "subscriptTail" => ((k_here; (with_reducible show wpAny _ _ (subscriptTail _ _ (Value.ref _) (Value.int _ _)) _ _ _); k_dflt (refine' item_bnd ?r8_N ?r8_hm ?r8_hi ?r8_h0 ?r8_h1 ?r8_h2 ?_; (case r8_N => k_asm); (case r8_hm => k_mem); (case r8_hi => assumption); (case r8_h0 => first | omega | k_extra "low"); (case r8_h1 => first | omega | k_extra "high"); (case r8_h2 => omega)); intro r_t'))
  k_with "ENTERC" => (k_dflt (refine' code_subC ?kPost ?k1 ?k2 ?k3 ?k4 ?k5 ?kA ?kF ?kK ?k6 ?k7 ?k8 ?k9 ?kB ?kD ?kS ?kBody ?kRet ?c2 ?c3 ?c4; (case kA => exact rfl); (case kF => exact rfl); (case kK => k_asm); (case k1 => k_asm); (case k2 => k_asm); (case k3 => k_asm); (case k4 => k_asm); (case k5 => k_asm); (case k6 => k_is); (case k7 => k_is); (case k8 => ktr_room); (case k9 => first | exact BindsTo.of_eq (rfl : bindArgs _ _ = pure [(_, _)]) | exact BindsTo.of_eq (rfl : bindArgs _ _ = pure [(_, _), (_, _)]) | exact BindsTo.of_eq (rfl : bindArgs _ _ = pure [(_, _), (_, _), (_, _)]) | exact BindsTo.of_eq (rfl : bindArgs _ _ = pure [(_, _), (_, _), (_, _), (_, _)]) | exact BindsTo.of_eq (rfl : bindArgs _ _ = pure [(_, _), (_, _), (_, _), (_, _), (_, _)]) | exact BindsTo.of_eq rfl); (case kB => exact rfl); (case kD => decide +kernel); (case c2 => exact rfl); (case c3 => exact rfl); (case c4 => exact rfl)))
  k_with "GROUNDC" => ((intro r_g' r_L' r_h' r_tk' r_cells' r_F' r_N' r_Y' r_l1 r_B' r_X' r_T' r_lN; k_lt r_l1; k_cells r_Y'; (try simp only [List.cons_append, List.nil_append] at r_N'); (try dsimp only)))
  k_with "call ref" => ((k_here; (with_reducible show wpAny _ _ (call (Value.ref 100) [Value.ref _, Value.int _ _]) _ _ _); k_dflt (refine' take_use ?r17_B ?r17_F ?r17_X ?r17_N ?r17_T ?r17_hk ?r17_hd ?r17_hu (fun o' => ?r17_U) ?r17_hi ?r17_hJ ?r17_hb ?r17_h5 ?r17_h6 ?_; (case r17_B => k_asm); (case r17_F => k_asm); (case r17_X => k_asm); (case r17_N => k_asm); (case r17_T => k_asm); (case r17_hk => first | exact rfl | assumption); (case r17_hd => ktr_room); (case r17_hu => ktr_units); (case r17_U => k_upd); (case r17_hi => assumption); (case r17_hJ => assumption); (case r17_hb => omega); (case r17_h5 => omega); (case r17_h6 => omega)); intro r_d' r_t' r_vs' r_n' r_ns' r_h' r_tk' r_hd1' r_hd2' r_hI' r_hJ' r_F' r_N'; (try dsimp only at r_N'); (try k_sweep)))
  k_with "call ref" => ((k_here; (with_reducible show wpAny _ _ (call (Value.ref 107) [Value.ref _]) _ _ _); k_dflt (refine' costs_use ?r18_B ?r18_F ?r18_X ?r18_N ?r18_T ?r18_hk ?r18_hd ?r18_hu (fun o' => ?r18_U) ?r18_hi ?r18_hJ ?r18_hb ?_; (case r18_B => k_asm); (case r18_F => k_asm); (case r18_X => k_asm); (case r18_N => k_asm); (case r18_T => k_asm); (case r18_hk => first | exact rfl | assumption); (case r18_hd => ktr_room); (case r18_hu => ktr_units); (case r18_U => k_upd); (case r18_hi => assumption); (case r18_hJ => assumption); (case r18_hb => omega)); intro r_l' r_us' r_ms' r_k' r_vs' r_n' r_ns' r_h' r_tk' r_l1 r_hI' r_hm8' r_hm20' r_hJ'' r_hJ' r_F' r_N'; (try k_lt r_l1); (try dsimp only at r_N'); (try k_sweep)))
  k_with "call ref" => ((k_here; (with_reducible show wpAny _ _ (call (Value.ref 114) [Value.ref _, Value.ref _]) _ _ _); k_dflt (refine' latest_con ?r19_B ?r19_F ?r19_X ?r19_N ?r19_T ?r19_hk ?r19_hd ?r19_hu ?r19_hc ?r19_ht ?r19_ci ?r19_ti ?r19_b1 ?r19_b2 ?_; (case r19_B => k_asm); (case r19_F => k_asm); (case r19_X => k_asm); (case r19_N => k_asm); (case r19_T => k_asm); (case r19_hk => first | exact rfl | assumption); (case r19_hd => ktr_room); (case r19_hu => ktr_units); (case r19_hc => k_mem); (case r19_ht => k_mem); (case r19_ci => assumption); (case r19_ti => assumption); (case r19_b1 => k_extra "there"); (case r19_b2 => omega)); intro r_v' r_h' r_tk' r_hv' r_F' r_N'; (try k_sweep); k_extra "latest"))
  k_with "call ref" => ((k_here; (with_reducible show wpAny _ _ (call (Value.ref 121) [Value.ref _, Value.ref _]) _ _ _); k_dflt (refine' waiting_con ?r20_B ?r20_F ?r20_X ?r20_N ?r20_T ?r20_hk ?r20_hd ?r20_hu ?r20_hc ?r20_ht ?r20_ci ?r20_ti ?r20_b1 ?r20_b2 ?r20_b3 ?_; (case r20_B => k_asm); (case r20_F => k_asm); (case r20_X => k_asm); (case r20_N => k_asm); (case r20_T => k_asm); (case r20_hk => first | exact rfl | assumption); (case r20_hd => ktr_room); (case r20_hu => ktr_units); (case r20_hc => k_mem); (case r20_ht => k_mem); (case r20_ci => assumption); (case r20_ti => assumption); (case r20_b1 => k_extra "there"); (case r20_b2 => omega); (case r20_b3 => first | omega | k_extra "therelen")); intro r_f' r_fvs' r_nf' r_h' r_tk' r_l1 r_hI' r_F' r_N'; (try simp only [List.forall_mem_cons] at r_l1); (try k_sweep); (try k_extra "waited")))
  k_with "call ref" => ((k_here; (with_reducible show wpAny _ _ (call (Value.ref 37) [Value.ref _, Value.int _ _]) _ _ _); (try k_extra "ahead"); k_dflt (refine' at_use ?r21_B ?r21_F ?r21_X ?r21_N ?r21_T ?r21_hk ?r21_hd ?r21_hu ?r21_hx ?r21_hdx ?r21_hc (fun o' => ?r21_U) ?r21_n1 ?r21_n2 ?r21_n3 ?r21_qi ?r21_ci ?r21_b0 ?r21_b1 ?r21_b2 ?r21_b3 ?r21_b4 ?r21_b5 ?_ ?_; (case r21_B => k_asm); (case r21_F => k_asm); (case r21_X => k_asm); (case r21_N => k_asm); (case r21_T => k_asm); (case r21_hk => first | exact rfl | assumption); (case r21_hd => ktr_room); (case r21_hu => ktr_units); (case r21_hx => k_mem); (case r21_hdx => k_mem); (case r21_hc => k_mem); (case r21_U => k_upd); (case r21_n1 => omega); (case r21_n2 => omega); (case r21_n3 => omega); (case r21_qi => assumption); (case r21_ci => assumption); (case r21_b0 => omega); (case r21_b1 => omega); (case r21_b2 => first | omega | k_extra "fresh"); (case r21_b3 => first | assumption | k_extra "queue"); (case r21_b4 => first | omega | k_extra "qlen"); (case r21_b5 => omega)); k_extra "at"))
  k_with "call ref" => ((k_here; (with_reducible show wpAny _ _ (call (Value.ref 40) [Value.int _ _, Value.int _ _, Value.ref _, Value.int _ _]) _ _ _); k_dflt (refine near_new4 (by k_asm) (by k_asm) (by k_asm) (by k_asm) (by k_asm) (by first | exact rfl | assumption) (by ktr_room) (by first | ktr_units | (simp only [units_under_make]; ktr_units)) ?_); intro r_x' r_d' r_q' r_k1' r_k2' r_k3' r_k4' r_k5' r_t1' r_t2' r_t3' r_nd' r_nq' r_h' r_tk' r_l1 r_l2 r_l3 r_F' r_N'; (try k_lt r_l1); (try k_sweep)))
  k_with "call ref" => ((k_here; (with_reducible show wpAny _ _ (call (Value.ref 40) [Value.int _ _, Value.int _ _, Value.ref _]) _ _ _); k_dflt (refine near_new3 (by k_asm) (by k_asm) (by k_asm) (by k_asm) (by k_asm) (by first | exact rfl | assumption) (by ktr_room) (by first | ktr_units | (simp only [units_under_make]; ktr_units)) ?_); intro r_x' r_d' r_q' r_k1' r_k2' r_k3' r_k4' r_k5' r_t1' r_t2' r_t3' r_nd' r_nq' r_h' r_tk' r_l1 r_l2 r_l3 r_F' r_N'; (try k_lt r_l1); (try k_sweep)))
  k_with "subscriptTail" => ((k_here; (with_reducible show wpAny _ _ (subscriptTail _ _ (Value.ref _) (Value.int _ _)) _ _ _); k_dflt (refine' item_lit ?r29_N ?r29_hm ?r29_hi ?r29_h0 ?r29_h1 ?r29_he ?_; (case r29_N => k_asm); (case r29_hm => k_mem); (case r29_hi => assumption); (case r29_h0 => decide); (case r29_h1 => decide); (case r29_he => exact rfl)); intro r_t'))
  k_with "subscriptTail Name Constant ref int" => ((k_here; (with_reducible show wpAny _ _ (subscriptTail _ _ (Value.ref _) (Value.int _ _)) _ _ _); k_dflt (refine' item_lit ?r30_N ?r30_hm ?r30_hi ?r30_h0 ?r30_h1 ?r30_he ?_; (case r30_N => k_asm); (case r30_hm => k_mem); (case r30_hi => assumption); (case r30_h0 => decide); (case r30_h1 => decide); (case r30_he => exact rfl)); intro r_t'))
  k_with "binaryOp Mult int int" => ((k_here; first | (with_reducible refine mul_int ?_ (mul_small (by decide) (by decide))) | ((k_dflt (refine mul_nt (by assumption) (by first | omega | k_extra "ntlow") (by omega) ?_)); intro r_hb') | k_dflt (refine mul_int ?_ (mul_small (by omega) (by omega)))))
  k_with "call builtin:min" => ((k_here; (with_reducible show wpAny _ _ (call (Value.builtin _) [Value.ref _]) _ _ _); k_dflt (refine' kso_min ?r32_F ?r32_N ?r32_l ?r32_hi ?r32_hne ?r32_hh ?_; (case r32_F => k_asm); (case r32_N => k_asm); (case r32_l => exact News.isList (by k_asm) (by k_mem)); (case r32_hi => assumption); (case r32_hne => k_extra "few"); (case r32_hh => exact rfl); k_whole); intro r_h' r_M' r_t' r_tk' r_F' r_N' r_m1' r_m2'; (try k_sweep)))
  k_with "execs cons" => ((k_here; (with_reducible refine wpAny_execs_cons ?_)))
  k_with "execs nil" => ((k_here; (with_reducible refine wpAny_execs_nil ?_)))
  k_with "call builtin:max" => ((k_here; (with_reducible show wpAny _ _ (call (Value.builtin _) [Value.int _ _, Value.int _ _]) _ _ _); k_dflt (refine' max_gen ?r35_hh ?r35_F ?r35_N ?_; (case r35_hh => exact rfl); (case r35_F => k_asm); (case r35_N => k_asm)); intro r_v' r_t' r_h' r_tk' r_hM' r_F' r_N'; (have r_hM2' := maxof_bnd r_hM' (by omega)); (try k_sweep)))
  k_with "InvEndN" => (k_dflt kst_close)
  k_with "call builtin:list.append" => ((k_here; (with_reducible show wpAny _ _ (call (Value.builtin _) [Value.ref _, Value.int _ _]) _ _ _); k_dflt (refine' append_ints ?r37_k1 ?r37_k2 (fun o' => ?r37_k3) ?r37_hi ?r37_hl ?_; (case r37_k1 => k_asm); (case r37_k2 => k_asm); (case r37_k3 => k_upd); (case r37_hi => assumption); (case r37_hl => exact few_alen (by assumption) (by assumption) (by assumption) (by assumption) (by assumption) (by assumption) (few_fd (.inl rfl) (by omega)) (few_fd (.inl rfl) (by omega)) (few_fd (.inr rfl) (by omega))); k_whole); intro r_h' r_us' r_un' r_hI' r_F' r_N'; (try dsimp only at r_N'); (try k_sweep)))
  refine wpAny_call ?_
  walk_at "ENTER"
  case kS => exact List.forall_mem_cons.mpr ⟨hp, List.forall_mem_nil _⟩
  case kPost => exact fun L' v sub' => sub' = [(pr, listOf pvs.toArray np)] ∧ ∃ x t, v = .int x t ∧ x ∈ fw1 nt many p0 p1 p2 p3 ∧ ∀ y ∈ fw1 nt many p0 p1 p2 p3, x ≤ y
  case kRet =>
    rintro L' r sub' h' tk' hlt F' hs hn _ ⟨rfl, x, t, rfl, h1, h2⟩
    exact ret x t h' tk' h1 h2 F' (newsSame N (List.forall_mem_cons.mpr ⟨hp, List.forall_mem_nil _⟩) hs hn)
  case kBody =>
    clear ret B F X₀ N T hp
    have hn0 : 0 ≤ nt ∧ nt ≤ 1 := by omega
    have hw : Owed (nt = 0 ∨ nt = 1) := ⟨h01⟩
    clear h01
    intro g' L' h' tk' F' N' B' X' T' _
    try dsimp only
    k_fold
    k_with "pyIter ref" => (k_of "lots" => ((((rename Fr _ _ _ _ => lF'); (rename IsRange _ _ _ _ _ _ _ _ => rgX); (simp only [hnt] at lF' rgX); (have hbm := few_nt hw (x := many) (by omega) b1.2); k_state_given ["nought"] (fun nt pre found => found = pre.flatMap (fw2 nt many p0 p1 p2 p3) ∧ found.length ≤ 1000 * pre.length) "found")); (all_goals (try k_fold))))
    k_with "pyIter ref" => (k_of "some" => ((k_state_given ["nought", "lots", "found!"] (fun nt lots f0 pre found => found = f0 ++ pre.flatMap (fw3 nt many p0 p1 p2 p3 lots) ∧ found.length ≤ f0.length + 30 * pre.length) "found"); (all_goals (try k_fold))))
    k_with "pyIter ref" => (k_of "again" => ((k_state_given ["nought", "lots", "some", "found!"] (fun nt lots sm f0 pre found => found = f0 ++ pre.flatMap (fwItem nt many p0 p1 p2 p3 lots sm) ∧ found.length ≤ f0.length + pre.length) "found"); (all_goals (try k_fold))))
    k_with "state" => exact few_l2 b1.2 (by assumption) (by assumption) (by assumption) (by assumption) (by assumption) (by assumption)
    k_with "state" => exact few_l1 hw.out b1.2 (by assumption) (by assumption) (by assumption) (by assumption) (by assumption)
    k_with "state" => exact few_no (fwAl_one (by assumption) ⟨by omega, by omega, by omega⟩) (by assumption) (by assumption) (by assumption)
    k_with "state" => exact few_yes (fwAl_one (by assumption) ⟨by omega, by omega, by omega⟩) (by assumption) (by assumption) (by assumption)
    k_with "state" => exact few_no (fwAl_same (by assumption) (by omega)) (by assumption) (by assumption) (by assumption)
    k_with "state" => exact few_yes (fwAl_same (by assumption) (by omega)) (by assumption) (by assumption) (by assumption)
    k_with "state" => first | exact few_s0 _ _ _ | exact few_s1 _ _ | (exact ⟨rfl, Nat.zero_le _⟩)
    k_with "ntlow" => ((have h9 := few_fd (k := 11) (x := nt * many) (.inr rfl) hbm.2); omega)
    k_with "few" => exact few_pos (by assumption) hne
    k_steps
    all_goals first
      | exact ⟨⟨[(pr, _)], List.forall_mem_cons.mpr ⟨by k_memK, List.forall_mem_nil _⟩, rfl, _, _, rfl, few_in (by assumption) (by assumption), few_least (by assumption) (by assumption)⟩⟩
end

end
section
/-- (lots, some, again, alone) make up a run of n -/
def Fe (nt n l s a al : Int) : Prop := 0 ≤ l ∧ 0 ≤ s ∧ 0 ≤ a ∧ 0 ≤ al ∧ 11 * l + 3 * s + 3 * a + al ≤ n ∧ n ≤ 138 * l + 10 * s + 6 * a + al ∧ (nt = 0 → l = 0 ∧ s = 0) ∧ (nt ≠ 0 → 0 < a → 0 < l + s + al)
def tcost (p0 p1 p2 p3 l s a al : Int) : Int := al * p0 + a * p1 + s * p2 + l * p3
def Least (nt p0 p1 p2 p3 n v : Int) : Prop := (∃ l s a al, Fe nt n l s a al ∧ v = tcost p0 p1 p2 p3 l s a al) ∧ ∀ l s a al, Fe nt n l s a al → v ≤ tcost p0 p1 p2 p3 l s a al
theorem Least.eq {nt p0 p1 p2 p3 n v u : Int} (h1 : Least nt p0 p1 p2 p3 n v) (h2 : Least nt p0 p1 p2 p3 n u) : v = u := by
  obtain ⟨⟨l, s, a, al, f, rfl⟩, g⟩ := h1
  obtain ⟨⟨l', s', a', al', f', rfl⟩, g'⟩ := h2
  exact Int.le_antisymm (g _ _ _ _ f') (g' _ _ _ _ f)
theorem rk_mem {x : Int} {n : Nat} : x ∈ rangeKs 0 n ↔ 0 ≤ x ∧ x < n := by
  unfold rangeKs
  simp only [List.mem_map, List.mem_range]
  constructor
  · rintro ⟨i, hi, rfl⟩; omega
  · rintro ⟨h0, h1⟩; exact ⟨x.toNat, by omega, by omega⟩
theorem fd_lt {x y k : Int} (hk : k = 3 ∨ k = 11) (h0 : 0 ≤ x) : x < ((y.fdiv k + 1 - 0).toNat : Int) ↔ k * x ≤ y := by
  rcases hk with rfl | rfl
  · rw [Int.fdiv_eq_ediv_of_nonneg _ (by omega)]; omega
  · rw [Int.fdiv_eq_ediv_of_nonneg _ (by omega)]; omega
theorem fw_mem {nt many p0 p1 p2 p3 v : Int} : v ∈ fw1 nt many p0 p1 p2 p3 ↔ ∃ l s a, 0 ≤ l ∧ 11 * l ≤ nt * many ∧ 0 ≤ s ∧ 3 * s ≤ nt * (many - 11 * l) ∧ 0 ≤ a ∧ 3 * a ≤ many - 11 * l - 3 * s ∧
    11 * l + 3 * s + 3 * a + fwAl nt many l s a ≤ many ∧ v = tcost p0 p1 p2 p3 l s a (fwAl nt many l s a) := by
  unfold fw1 fw2 fw3
  simp only [List.mem_flatMap, rk_mem]
  constructor
  · rintro ⟨l, ⟨l0, l1⟩, s, ⟨s0, s1⟩, a, ⟨a0, a1⟩, h⟩
    unfold fwItem at h
    split at h
    · exact ⟨l, s, a, l0, (fd_lt (.inr rfl) l0).mp l1, s0, (fd_lt (.inl rfl) s0).mp s1, a0, (fd_lt (.inl rfl) a0).mp a1, by assumption, List.mem_singleton.mp h⟩
    · cases h
  · rintro ⟨l, s, a, l0, l1, s0, s1, a0, a1, hc, rfl⟩
    refine ⟨l, ⟨l0, (fd_lt (.inr rfl) l0).mpr l1⟩, s, ⟨s0, (fd_lt (.inl rfl) s0).mpr s1⟩, a, ⟨a0, (fd_lt (.inl rfl) a0).mpr a1⟩, ?_⟩
    unfold fwItem
    rw [if_pos hc]
    exact List.mem_singleton.mpr rfl
theorem fw_fe {nt many l s a : Int} (h01 : nt = 0 ∨ nt = 1) (l0 : 0 ≤ l) (l1 : 11 * l ≤ nt * many) (s0 : 0 ≤ s) (s1 : 3 * s ≤ nt * (many - 11 * l)) (a0 : 0 ≤ a) (hc : 11 * l + 3 * s + 3 * a + fwAl nt many l s a ≤ many) : Fe nt many l s a (fwAl nt many l s a) := by
  unfold Fe
  unfold fwAl at hc ⊢
  rcases h01 with rfl | rfl
  · refine ⟨l0, s0, a0, ?_, hc, ?_, fun _ => ⟨by omega, by omega⟩, fun h => absurd rfl h⟩ <;> (split <;> (try split) <;> omega)
  · refine ⟨l0, s0, a0, ?_, hc, ?_, fun h => absurd h (by omega), fun _ h => ?_⟩
    · split <;> (try split) <;> omega
    · split <;> (try split) <;> omega
    · split <;> omega
theorem fe_al {nt many l s a al : Int} (h : Fe nt many l s a al) (h01 : nt = 0 ∨ nt = 1) : fwAl nt many l s a ≤ al := by
  obtain ⟨l0, s0, a0, al0, c1, c2, z, o⟩ := h
  unfold fwAl
  rcases h01 with rfl | rfl
  · split <;> (try split) <;> omega
  · have o' := o (by omega)
    by_cases ha : 0 < a
    · have := o' ha
      split <;> (try split) <;> omega
    · rw [if_neg (fun h => ha h.2.1)]
      split <;> omega
theorem few_leastP {nt many p0 p1 p2 p3 v : Int} (h01 : nt = 0 ∨ nt = 1) (q0 : 0 ≤ p0) (h1 : v ∈ fw1 nt many p0 p1 p2 p3) (h2 : ∀ x ∈ fw1 nt many p0 p1 p2 p3, v ≤ x) : Least nt p0 p1 p2 p3 many v := by
  obtain ⟨l, s, a, l0, l1, s0, s1, a0, a1, hc, hv⟩ := fw_mem.mp h1
  refine ⟨⟨l, s, a, _, fw_fe h01 l0 l1 s0 s1 a0 hc, hv⟩, fun l s a al hf => ?_⟩
  have ha := fe_al hf h01
  obtain ⟨l0, s0, a0, al0, c1, c2, z, o⟩ := hf
  have hm := h2 (tcost p0 p1 p2 p3 l s a (fwAl nt many l s a)) (fw_mem.mpr ⟨l, s, a, l0, (by rcases h01 with rfl | rfl <;> omega), s0, (by rcases h01 with rfl | rfl <;> omega), a0, by omega, by omega, rfl⟩)
  unfold tcost at hm ⊢
  have := Int.mul_le_mul_of_nonneg_right ha q0
  omega
theorem fw_ne {nt many p0 p1 p2 p3 : Int} (hm : 0 ≤ many) (h01 : nt = 0 ∨ nt = 1) : fw1 nt many p0 p1 p2 p3 ≠ [] := by
  intro h
  have e : fwAl nt many 0 0 0 = many := by
    unfold fwAl
    rw [if_neg (by omega)]
    split <;> omega
  have : tcost p0 p1 p2 p3 0 0 0 (fwAl nt many 0 0 0) ∈ fw1 nt many p0 p1 p2 p3 := fw_mem.mpr ⟨0, 0, 0, by omega, (by rcases h01 with rfl | rfl <;> omega), by omega, (by rcases h01 with rfl | rfl <;> omega), by omega, by omega, by omega, rfl⟩
  rw [h] at this
  cases this
/-- every place of a window costs no less than v -/
def LeAll (ms : List Int) (f m first n price v : Int) : Prop := ∀ i, first ≤ i → f ≤ n - i → n - i ≤ m → v ≤ gi ms i + price
/-- q is the best place of the window -/
def BestAt (ms : List Int) (f m first n q : Int) : Prop := first ≤ q ∧ f ≤ n - q ∧ n - q ≤ m ∧ ∀ i, first ≤ i → f ≤ n - i → n - i ≤ m → gi ms q ≤ gi ms i
theorem latestF_least (ms : List Int) : ∀ (ts : List Int) (b : Option Int) (q : Int), ts.foldl (latS ms) b = some q → (∀ x ∈ ts, gi ms q ≤ gi ms x) ∧ ∀ y, b = some y → gi ms q ≤ gi ms y := by
  intro ts
  induction ts with
  | nil =>
    intro b q h
    refine ⟨List.forall_mem_nil _, fun y e => ?_⟩
    rw [List.foldl_nil, e] at h
    cases h
    exact Int.le_refl _
  | cons p r ih =>
    intro b q h
    rw [List.foldl_cons] at h
    obtain ⟨h1, h2⟩ := ih _ q h
    cases b with
    | none =>
      have := h2 p rfl
      exact ⟨fun x hx => (List.mem_cons.mp hx).elim (fun e => e ▸ this) (h1 x), fun y e => nomatch e⟩
    | some y =>
      by_cases hc : gi ms p ≤ gi ms y
      · have := h2 p (by unfold latS; dsimp only; rw [if_pos hc])
        exact ⟨fun x hx => (List.mem_cons.mp hx).elim (fun e => e ▸ this) (h1 x), fun z e => by cases e; exact Int.le_trans this hc⟩
      · have := h2 y (by unfold latS; dsimp only; rw [if_neg hc])
        exact ⟨fun x hx => (List.mem_cons.mp hx).elim (fun e => by rw [e]; omega) (h1 x), fun z e => by cases e; exact this⟩
theorem latestP_least (ms ts : List Int) (q : Int) (h : latestP ms ts = some q) : ∀ x ∈ ts, gi ms q ≤ gi ms x := (latestF_least ms ts none q h).1
theorem bestAt {ms : List Int} {f m first n : Int} (h0 : first ≤ n - f) (h1 : f ≤ m) (h2 : 1 ≤ f) : BestAt ms f m first n ((waitP ms (win f m first n)).headD 0) := by
  have e := at_lat ms h1 h0 h2
  have hm := latestP_mem ms _ _ e
  have hw := win_mem.mp hm
  refine ⟨hw.1, hw.2.2.1, hw.2.2.2, fun i i0 i1 i2 => ?_⟩
  have hi : i ∈ win f m first n := win_mem.mpr ⟨i0, by omega, i1, i2⟩
  exact latestP_least ms _ _ e i hi
theorem LeAll.none {ms : List Int} {f m first n price v : Int} (h : n - f < first) : LeAll ms f m first n price v := fun i i0 i1 _ => by omega
theorem LeAll.some {ms : List Int} {f m first n price v q : Int} (h : BestAt ms f m first n q) (hv : v ≤ gi ms q + price) : LeAll ms f m first n price v := fun i i0 i1 i2 => by have := h.2.2.2 i i0 i1 i2; omega
theorem LeAll.mono {ms : List Int} {f m first n price v u : Int} (h : LeAll ms f m first n price v) (hv : u ≤ v) : LeAll ms f m first n price u := fun i i0 i1 i2 => by have := h i i0 i1 i2; omega
/-- the piece that a cost was made with -/
def PieceOk (len : Int) (ms : List Int) (p0 p1 p2 p3 n b sz sy : Int) : Prop :=
  (sy = len ∧ sz = 1 ∧ b = gi ms (n - 1) + p0) ∨ (sy = 16 ∧ 3 ≤ sz ∧ sz ≤ 6 ∧ (if len = 0 then 1 else 0) ≤ n - sz ∧ b = gi ms (n - sz) + p1) ∨
  (len = 0 ∧ sy = 17 ∧ 3 ≤ sz ∧ sz ≤ 10 ∧ 0 ≤ n - sz ∧ b = gi ms (n - sz) + p2) ∨ (len = 0 ∧ sy = 18 ∧ 11 ≤ sz ∧ sz ≤ 138 ∧ 0 ≤ n - sz ∧ b = gi ms (n - sz) + p3)
theorem fe_again {nt n l s a al p0 p1 p2 p3 : Int} (h : Fe nt n l s a al) (k : Int) (h1 : 3 ≤ k) (h2 : k ≤ 6) (h3 : nt ≠ 0 → 0 < n) : Fe nt (n + k) l s (a + 1) al ∧ tcost p0 p1 p2 p3 l s (a + 1) al = tcost p0 p1 p2 p3 l s a al + p1 := by
  obtain ⟨l0, s0, a0, al0, c1, c2, z, o⟩ := h
  refine ⟨⟨l0, s0, by omega, al0, by omega, by omega, z, fun hn _ => ?_⟩, ?_⟩
  · have := h3 hn
    by_cases ha : 0 < a
    · exact o hn ha
    · omega
  · unfold tcost; rw [Int.add_mul]; omega
theorem fe_some {nt n l s a al p0 p1 p2 p3 : Int} (h : Fe nt n l s a al) (k : Int) (h1 : 3 ≤ k) (h2 : k ≤ 10) (h3 : nt ≠ 0) : Fe nt (n + k) l (s + 1) a al ∧ tcost p0 p1 p2 p3 l (s + 1) a al = tcost p0 p1 p2 p3 l s a al + p2 := by
  obtain ⟨l0, s0, a0, al0, c1, c2, z, o⟩ := h
  refine ⟨⟨l0, by omega, a0, al0, by omega, by omega, fun h => absurd h h3, fun hn _ => by omega⟩, ?_⟩
  unfold tcost; rw [Int.add_mul]; omega
theorem fe_lots {nt n l s a al p0 p1 p2 p3 : Int} (h : Fe nt n l s a al) (k : Int) (h1 : 11 ≤ k) (h2 : k ≤ 138) (h3 : nt ≠ 0) : Fe nt (n + k) (l + 1) s a al ∧ tcost p0 p1 p2 p3 (l + 1) s a al = tcost p0 p1 p2 p3 l s a al + p3 := by
  obtain ⟨l0, s0, a0, al0, c1, c2, z, o⟩ := h
  refine ⟨⟨by omega, s0, a0, al0, by omega, by omega, fun h => absurd h h3, fun hn _ => by omega⟩, ?_⟩
  unfold tcost; rw [Int.add_mul]; omega
theorem fe_alone {nt n l s a al p0 p1 p2 p3 : Int} (h : Fe nt n l s a al) : Fe nt (n + 1) l s a (al + 1) ∧ tcost p0 p1 p2 p3 l s a (al + 1) = tcost p0 p1 p2 p3 l s a al + p0 := by
  obtain ⟨l0, s0, a0, al0, c1, c2, z, o⟩ := h
  refine ⟨⟨l0, s0, a0, by omega, by omega, by omega, z, fun hn _ => by omega⟩, ?_⟩
  unfold tcost; rw [Int.add_mul]; omega
/-- all costs so far are the least ones -/
def AllLeast (nt p0 p1 p2 p3 : Int) (ms : List Int) (n : Int) : Prop := ∀ i, 0 ≤ i → i < n → Least nt p0 p1 p2 p3 i (gi ms i)
theorem least_up {nt len p0 p1 p2 p3 n b sz sy : Int} {ms : List Int} (hl : nt = if len = 0 then 1 else 0) (hn : 1 ≤ n) (hA : AllLeast nt p0 p1 p2 p3 ms n) (hP : PieceOk len ms p0 p1 p2 p3 n b sz sy) : ∃ l s a al, Fe nt n l s a al ∧ b = tcost p0 p1 p2 p3 l s a al := by
  rcases hP with ⟨rfl, rfl, rfl⟩ | ⟨rfl, h1, h2, h3, rfl⟩ | ⟨rfl, rfl, h1, h2, h3, rfl⟩ | ⟨rfl, rfl, h1, h2, h3, rfl⟩
  · obtain ⟨⟨l, s, a, al, hf, e⟩, _⟩ := hA (n - 1) (by omega) (by omega)
    have := fe_alone (p0 := p0) (p1 := p1) (p2 := p2) (p3 := p3) hf
    rw [show n - 1 + 1 = n from by omega] at this
    exact ⟨_, _, _, _, this.1, by rw [this.2, e]⟩
  · rw [← hl] at h3
    have hnt : nt = 1 ∨ nt = 0 := by rw [hl]; split <;> omega
    obtain ⟨⟨l, s, a, al, hf, e⟩, _⟩ := hA (n - sz) (by omega) (by omega)
    have := fe_again (p0 := p0) (p1 := p1) (p2 := p2) (p3 := p3) hf sz h1 h2 (fun _ => by omega)
    rw [show n - sz + sz = n from by omega] at this
    exact ⟨_, _, _, _, this.1, by rw [this.2, e]⟩
  · obtain ⟨⟨l, s, a, al, hf, e⟩, _⟩ := hA (n - sz) (by omega) (by omega)
    have := fe_some (p0 := p0) (p1 := p1) (p2 := p2) (p3 := p3) hf sz h1 h2 (by rw [hl]; decide)
    rw [show n - sz + sz = n from by omega] at this
    exact ⟨_, _, _, _, this.1, by rw [this.2, e]⟩
  · obtain ⟨⟨l, s, a, al, hf, e⟩, _⟩ := hA (n - sz) (by omega) (by omega)
    have := fe_lots (p0 := p0) (p1 := p1) (p2 := p2) (p3 := p3) hf sz h1 h2 (by rw [hl]; decide)
    rw [show n - sz + sz = n from by omega] at this
    exact ⟨_, _, _, _, this.1, by rw [this.2, e]⟩
/-- what every tried kind leaves: the best so far is no more than what any last piece would cost -/
def AllTried (nt p0 p1 p2 p3 : Int) (ms : List Int) (n b : Int) : Prop := b ≤ gi ms (n - 1) + p0 ∧ LeAll ms 3 6 nt n p1 b ∧ (nt = 1 → LeAll ms 3 10 0 n p2 b ∧ LeAll ms 11 138 0 n p3 b)
/-- a place between lo and hi, from f to m ahead of n -/
theorem pick {nt n f m lo hi : Int} (h1 : lo ≤ hi) (h2 : lo ≤ n - f) (h3 : n - m ≤ hi) (h4 : f ≤ m) (h5 : nt ≤ lo) : ∃ i, nt ≤ i ∧ f ≤ n - i ∧ n - i ≤ m ∧ lo ≤ i ∧ i ≤ hi := by
  by_cases hk : n - m ≤ lo
  · exact ⟨lo, h5, by omega, by omega, Int.le_refl _, h1⟩
  · exact ⟨n - m, by omega, by omega, by omega, by omega, h3⟩
theorem least_low {nt p0 p1 p2 p3 n b : Int} {ms : List Int} (h01 : nt = 0 ∨ nt = 1) (hn : 1 ≤ n) (hA : AllLeast nt p0 p1 p2 p3 ms n) (hT : AllTried nt p0 p1 p2 p3 ms n b) : ∀ l s a al, Fe nt n l s a al → b ≤ tcost p0 p1 p2 p3 l s a al := by
  intro l s a al ⟨l0, s0, a0, al0, c1, c2, z, o⟩
  obtain ⟨t1, t2, t3⟩ := hT
  by_cases ha : 0 < a
  · -- k: how much the copy takes
    have h5 : nt ≤ 11 * l + 3 * s + 3 * (a - 1) + al := by
      rcases h01 with rfl | rfl
      · omega
      · have := o (by omega) ha; omega
    obtain ⟨i, i1, i2, i3, i4, i5⟩ := pick (n := n) (f := 3) (m := 6) (lo := 11 * l + 3 * s + 3 * (a - 1) + al) (hi := 138 * l + 10 * s + 6 * (a - 1) + al) (by omega) (by omega) (by omega) (by decide) h5
    have hf : Fe nt i l s (a - 1) al := ⟨l0, s0, by omega, al0, by omega, by omega, z, fun hn _ => o hn ha⟩
    have h1 := (hA i (by omega) (by omega)).2 _ _ _ _ hf
    have h2 := t2 i i1 i2 i3
    unfold tcost at h1 ⊢
    rw [Int.sub_mul] at h1
    omega
  · have ha0 : a = 0 := by omega
    subst ha0
    by_cases hal : 0 < al
    · have hf : Fe nt (n - 1) l s 0 (al - 1) := ⟨l0, s0, by omega, by omega, by omega, by omega, z, fun _ h => absurd h (by omega)⟩
      have h1 := (hA (n - 1) (by omega) (by omega)).2 _ _ _ _ hf
      unfold tcost at h1 ⊢
      rw [Int.sub_mul] at h1
      omega
    · have hal0 : al = 0 := by omega
      subst hal0
      have hnt : nt = 1 := by
        rcases h01 with rfl | rfl
        · have := z rfl; omega
        · rfl
      obtain ⟨u2, u3⟩ := t3 hnt
      by_cases hs : 0 < s
      · obtain ⟨i, i1, i2, i3, i4, i5⟩ := pick (nt := 0) (n := n) (f := 3) (m := 10) (lo := 11 * l + 3 * (s - 1)) (hi := 138 * l + 10 * (s - 1)) (by omega) (by omega) (by omega) (by decide) (by omega)
        have hf : Fe nt i l (s - 1) 0 0 := ⟨l0, by omega, by omega, by omega, by omega, by omega, fun h => by omega, fun _ h => absurd h (by omega)⟩
        have h1 := (hA i (by omega) (by omega)).2 _ _ _ _ hf
        have h2 := u2 i i1 i2 i3
        unfold tcost at h1 ⊢
        rw [Int.sub_mul] at h1
        omega
      · have hs0 : s = 0 := by omega
        subst hs0
        obtain ⟨i, i1, i2, i3, i4, i5⟩ := pick (nt := 0) (n := n) (f := 11) (m := 138) (lo := 11 * (l - 1)) (hi := 138 * (l - 1)) (by omega) (by omega) (by omega) (by decide) (by omega)
        have hf : Fe nt i (l - 1) 0 0 0 := ⟨by omega, by omega, by omega, by omega, by omega, by omega, fun h => by omega, fun _ h => absurd h (by omega)⟩
        have h1 := (hA i (by omega) (by omega)).2 _ _ _ _ hf
        have h2 := u3 i i1 i2 i3
        unfold tcost at h1 ⊢
        rw [Int.sub_mul] at h1
        omega
theorem least_add {nt len p0 p1 p2 p3 n b sz sy : Int} {ms : List Int} (hl : nt = if len = 0 then 1 else 0) (hn : 1 ≤ n) (hA : AllLeast nt p0 p1 p2 p3 ms n) (hP : PieceOk len ms p0 p1 p2 p3 n b sz sy) (hT : AllTried nt p0 p1 p2 p3 ms n b) : Least nt p0 p1 p2 p3 n b :=
  ⟨least_up hl hn hA hP, least_low (by rw [hl]; split <;> omega) hn hA hT⟩
theorem least_zero {nt p0 p1 p2 p3 : Int} : Least nt p0 p1 p2 p3 0 0 := by
  refine ⟨⟨0, 0, 0, 0, ⟨by omega, by omega, by omega, by omega, by omega, by omega, fun _ => ⟨rfl, rfl⟩, fun _ h => absurd h (by omega)⟩, by unfold tcost; omega⟩, ?_⟩
  intro l s a al ⟨l0, s0, a0, al0, c1, c2, z, o⟩
  have e1 : l = 0 := by omega
  have e2 : s = 0 := by omega
  have e3 : a = 0 := by omega
  have e4 : al = 0 := by omega
  subst e1 e2 e3 e4
  unfold tcost; omega
theorem run_at {ms ql : List Int} {F M first count : Int} (hP : ql = waitP ms (win F M first (count - 1))) (h0 : 0 ≤ first) (h1 : F ≤ M) (h2 : first ≤ count - F) (h3 : 1 ≤ F) : atQ ms F M count ql = waitP ms (win F M first count) := by
  have h := at_step (ms := ms) (n := ms.length + count.toNat) h0 h1 h2 h3 (by omega)
  rw [take_all (by omega), ← hP] at h
  exact h
theorem run_qN {ms ql : List Int} {F M first count : Int} (hP : ql = waitP ms (win F M first (count - 1))) (h : count - F < first) : ql = waitP ms (win F M first count) := by
  rw [hP, win_nil h, win_nil (by omega)]
theorem BestAt.rng {ms : List Int} {f m first n q : Int} (h : BestAt ms f m first n q) : first ≤ q ∧ f ≤ n - q ∧ n - q ≤ m := ⟨h.1, h.2.1, h.2.2.1⟩
theorem waitP_congr {ms ms' : List Int} : ∀ {W : List Int}, (∀ x ∈ W, gi ms x = gi ms' x) → waitP ms W = waitP ms' W := by
  intro W
  induction W with
  | nil => intro _; rfl
  | cons x r ih =>
    intro h
    rw [waitP_cons, waitP_cons, ← ih (fun y hy => h y (.tail _ hy))]
    unfold waitS
    by_cases he : waitP ms r = []
    · rw [if_pos (.inl he), if_pos (.inl he)]
    · have hg : gi (waitP ms r) 0 ∈ waitP ms r := by
        cases hw : waitP ms r with
        | nil => exact absurd hw he
        | cons y z => exact .head _
      rw [h x (.head _), h _ (.tail _ (waitP_sub hg))]
theorem gi_app {ms : List Int} {b x : Int} (h0 : 0 ≤ x) (h1 : x < ms.length) : gi ms x = gi (ms ++ [b]) x := by
  unfold gi
  rw [List.getD_eq_getElem?_getD, List.getD_eq_getElem?_getD, List.getElem?_append_left (by omega)]
theorem waitP_app1 {ms : List Int} {F M first count b : Int} (h0 : 0 ≤ first) (h1 : count ≤ ms.length) (h3 : 1 ≤ F) : waitP ms (win F M first count) = waitP (ms ++ [b]) (win F M first count) :=
  waitP_congr fun x hx => by have := win_mem.mp hx; exact gi_app (by omega) (by omega)

end
section
/-- a RunWays' dict -/
noncomputable abbrev waysDict (P : Params) (k1 k2 k3 k4 k5 t1 : Tok) (n : Nat) (len : Int) (pr c pc kd : Addr) : Obj :=
  dictOf [⟨PyData.keyHash P (PySem.Str.ofString "length"), .str (PySem.Str.ofString "length") k1, .int len t1⟩, ⟨PyData.keyHash P (PySem.Str.ofString "prices"), .str (PySem.Str.ofString "prices") k2, .ref pr⟩,
    ⟨PyData.keyHash P (PySem.Str.ofString "costs"), .str (PySem.Str.ofString "costs") k3, .ref c⟩, ⟨PyData.keyHash P (PySem.Str.ofString "pieces"), .str (PySem.Str.ofString "pieces") k4, .ref pc⟩,
    ⟨PyData.keyHash P (PySem.Str.ofString "kinds"), .str (PySem.Str.ofString "kinds") k5, .ref kd⟩] n
noncomputable abbrev tup2 (v1 v2 : Value) (n : Nat) : Obj := { cls := .type "tuple", data := .seq [v1, v2].toArray n }
theorem atOfL {h₀ h h' : Heap} {L : Addr} {news sub0 sub : List (Addr × Obj)} {ch : List Addr} (N : News h₀ L h news) (hsub : ∀ p ∈ sub0, p ∈ news) (hs : ∀ p ∈ sub0, At h₀ L h' p) (he : ∀ r ∈ sub, r ∈ sub0 ∨ r.1 ∈ ch)
    (hn : ∀ p ∈ news, (∀ r ∈ sub, p.1 ≠ r.1) → At h₀ L h' p) : ∀ p ∈ news, (∀ q ∈ ch, p.1 ≠ q) → At h₀ L h' p := by
  intro p hp hq
  by_cases hr : ∃ r ∈ sub0, p.1 = r.1
  · obtain ⟨r, hr, e⟩ := hr
    have e1 := (N p hp).1
    have e2 := (N r (hsub r hr)).1
    rw [e, e2] at e1
    have e3 : p = r := Prod.ext e (Option.some.inj e1).symm
    rw [e3]; exact hs r hr
  · refine hn p hp fun r hr' e => ?_
    rcases he r hr' with h1 | h1
    · exact hr ⟨r, h1, e⟩
    · exact hq _ h1 e
theorem updIn {d : Addr} {o o' : Obj} {news news' : List (Addr × Obj)} (U : Upd d o o' news news') : ∀ p ∈ news', p = (d, o') ∨ (p ∈ news ∧ p.1 ≠ d) := by
  obtain ⟨pre, post, rfl, rfl, a, b⟩ := U.split
  intro p hp
  rcases List.mem_append.mp hp with q | q
  · exact .inr ⟨List.mem_append_left _ q, a p q⟩
  · rcases List.mem_cons.mp q with rfl | q
    · exact .inl rfl
    · exact .inr ⟨List.mem_append_right _ (.tail _ q), b p q⟩
section
variable {prog : Program} {w : World} {A : Around} {s : Shared} {h₀ : Heap} {L : Addr} {m : Str → Option Value} {news : List (Addr × Obj)} {Q E : Value → Shared → Prop}
theorem newTup_L {A : Around} {M : Model} {vs : List Value} (F : Fr h₀ L s.heap m) (N : News h₀ L s.heap news)
    (h : ∀ l h', Fr h₀ L h' m → News h₀ L h' ((l, { cls := .type "tuple", data := .seq vs.toArray }) :: news) → (∀ p ∈ (L, (default : Obj)) :: news, p.1 < l) → Q (.ref l) { s with heap := h' }) (hsz : vs.length ≤ sizeLine := by size_fits) : wpAny M A (newTuple vs) Q E s :=
  newTuple_N F N (fun h' F' N' => h _ h' F' N' fun p hp => by
    rcases List.mem_cons.mp hp with rfl | hp
    · exact F.ns.lt
    · exact Heap.lt_size (N p hp).1) hsz
theorem append_any {D : Addr} {us : List Value} {n : Nat} {v : Value} {news' : Obj → List (Addr × Obj)} (F : Fr h₀ L s.heap m) (N : News h₀ L s.heap news)
    (U : ∀ o', Upd D (listOf us.toArray n) o' news (news' o')) (hl : us.length ≤ 100000)
    (h : ∀ h' n', Fr h₀ L h' m → News h₀ L h' (news' (listOf (us ++ [v]).toArray n')) → Q .none { s with heap := h' }) : wpAny (model prog w) A (call (.builtin "list.append") [.ref D, v]) Q E s := by
  refine append_K F N (U _) (fun h' F' N' => h h' (n + 1) F' (by rw [List.push_toArray] at N'; exact N')) ?_
  rw [List.size_toArray, sizeLine_eq]
  omega
end

end
section
def restOf (sy sz : Int) : Int := if sy = 18 then sz - 11 else if sy = 16 ∨ sy = 17 then sz - 3 else 0
def szOf (p : Int × Int) : Int := if p.1 = 18 then 11 + p.2 else if p.1 = 16 ∨ p.1 = 17 then 3 + p.2 else 1
def prOf (p0 p1 p2 p3 : Int) (p : Int × Int) : Int := if p.1 = 18 then p3 else if p.1 = 17 then p2 else if p.1 = 16 then p1 else p0
/-- the pieces of a run of n, the last one last -/
inductive Told (len p0 p1 p2 p3 : Int) (ms : List Int) : Int → List (Int × Int) → Prop
  | zero : Told len p0 p1 p2 p3 ms 0 []
  | step {n sz sy : Int} {R : List (Int × Int)} (h1 : 1 ≤ n) (hp : PieceOk len ms p0 p1 p2 p3 n (gi ms n) sz sy) (h : Told len p0 p1 p2 p3 ms (n - sz) R) : Told len p0 p1 p2 p3 ms n (R ++ [(sy, restOf sy sz)])
/-- what _law_told_right asks of a piece at its place -/
def ItemOk (len : Int) (i : Nat) (p : Int × Int) : Prop := (p.1 = len ∧ p.2 = 0) ∨ (p.1 = 16 ∧ 0 ≤ p.2 ∧ p.2 < 4 ∧ 0 < len + (i : Int)) ∨ (p.1 = 17 ∧ 0 ≤ p.2 ∧ p.2 < 8 ∧ len = 0) ∨ (p.1 = 18 ∧ 0 ≤ p.2 ∧ p.2 < 128 ∧ len = 0)
theorem piece_sz {len n b sz sy p0 p1 p2 p3 : Int} {ms : List Int} (hl : 0 ≤ len ∧ len ≤ 15) (h : PieceOk len ms p0 p1 p2 p3 n b sz sy) (hn : 1 ≤ n) : 1 ≤ sz ∧ 0 ≤ n - sz ∧ szOf (sy, restOf sy sz) = sz ∧ prOf p0 p1 p2 p3 (sy, restOf sy sz) = b - gi ms (n - sz) := by
  unfold szOf prOf restOf
  rcases h with ⟨rfl, rfl, rfl⟩ | ⟨rfl, h1, h2, h3, rfl⟩ | ⟨rfl, rfl, h1, h2, h3, rfl⟩ | ⟨rfl, rfl, h1, h2, h3, rfl⟩
  · refine ⟨by omega, by omega, ?_, ?_⟩
    · rw [if_neg (by dsimp only; omega), if_neg (by dsimp only; omega)]
    · rw [if_neg (by dsimp only; omega), if_neg (by dsimp only; omega), if_neg (by dsimp only; omega)]; omega
  · refine ⟨by omega, by split at h3 <;> omega, ?_, ?_⟩
    · simp; omega
    · simp; omega
  · refine ⟨by omega, by omega, ?_, ?_⟩
    · simp; omega
    · simp; omega
  · refine ⟨by omega, by omega, ?_, ?_⟩
    · simp; omega
    · simp; omega
theorem told_ok {len p0 p1 p2 p3 : Int} {ms : List Int} (hl : 0 ≤ len ∧ len ≤ 15) (h0 : gi ms 0 = 0) {n : Int} {R : List (Int × Int)} (h : Told len p0 p1 p2 p3 ms n R) :
    (∀ i p, R[i]? = some p → ItemOk len i p) ∧ (R.map szOf).sum = n ∧ (R.map (prOf p0 p1 p2 p3)).sum = gi ms n ∧ (1 ≤ n → 0 < R.length) ∧ (R.length : Int) ≤ n := by
  induction h with
  | zero =>
    refine ⟨fun i p h => ?_, rfl, h0.symm, fun h => absurd h (by omega), by simp⟩
    rw [List.getElem?_nil] at h
    cases h
  | @step n sz sy R h1 hp _ ih =>
    obtain ⟨a1, a2, a3, a4, a5⟩ := ih
    obtain ⟨b1, b2, b3, b4⟩ := piece_sz hl hp h1
    refine ⟨fun i p hi => ?_, ?_, ?_, fun _ => by simp, ?_⟩
    · by_cases hlt : i < R.length
      · rw [List.getElem?_append_left hlt] at hi
        exact a1 i p hi
      · rw [List.getElem?_append_right (by omega)] at hi
        have hi0 : i - R.length = 0 := by
          rcases Nat.eq_zero_or_pos (i - R.length) with h | h
          · exact h
          · rw [List.getElem?_eq_none (by rw [List.length_singleton]; omega)] at hi; cases hi
        rw [hi0] at hi
        cases hi
        have hie : i = R.length := by omega
        rcases hp with ⟨rfl, rfl, _⟩ | ⟨rfl, h1, h2, h3, _⟩ | ⟨rfl, rfl, h1, h2, h3, _⟩ | ⟨rfl, rfl, h1, h2, h3, _⟩
        · refine .inl ⟨rfl, ?_⟩
          unfold restOf
          rw [if_neg (by omega), if_neg (by omega)]
        · refine .inr (.inl ⟨rfl, ?_, ?_, ?_⟩)
          · simp [restOf]; omega
          · simp [restOf]; omega
          · by_cases hz : len = 0
            · rw [if_pos hz] at h3
              have := a4 h3
              omega
            · omega
        · refine .inr (.inr (.inl ⟨rfl, ?_, ?_, rfl⟩)) <;> (simp [restOf]; omega)
        · refine .inr (.inr (.inr ⟨rfl, ?_, ?_, rfl⟩)) <;> (simp [restOf]; omega)
    · rw [List.map_append, List.sum_append, a2, List.map_cons, List.map_nil, List.sum_cons, List.sum_nil, b3]; omega
    · rw [List.map_append, List.sum_append, a3, List.map_cons, List.map_nil, List.sum_cons, List.sum_nil, b4]; omega
    · rw [List.length_append, List.length_singleton]; omega
/-- a list of references to tuples of two ints -/
def TupsAre (T : List (Addr × Obj)) (vs : List Value) (R : List (Int × Int)) : Prop := vs.length = R.length ∧ ∀ (i : Nat) (p : Int × Int), R[i]? = some p → ∃ (a : Addr) (n : Nat) (t u : Tok), vs[i]? = some (.ref a) ∧ (a, tup2 (.int p.1 t) (.int p.2 u) n) ∈ T
theorem TupsAre.nil {T : List (Addr × Obj)} : TupsAre T [] [] := ⟨rfl, fun _ _ h => nomatch h⟩
theorem TupsAre.mono {T T' : List (Addr × Obj)} {vs : List Value} {R : List (Int × Int)} (h : TupsAre T vs R) (hs : ∀ p ∈ T, p ∈ T') : TupsAre T' vs R := ⟨h.1, fun i p hp => by obtain ⟨a, n, t, u, h1, h2⟩ := h.2 i p hp; exact ⟨a, n, t, u, h1, hs _ h2⟩⟩
theorem TupsAre.snoc {T : List (Addr × Obj)} {vs : List Value} {R : List (Int × Int)} {a : Addr} {x y : Int} {t u : Tok} {n : Nat} (h : TupsAre T vs R) (ha : (a, tup2 (.int x t) (.int y u) n) ∈ T) : TupsAre T (vs ++ [.ref a]) (R ++ [(x, y)]) := by
  refine ⟨by simp [h.1], fun i p hi => ?_⟩
  by_cases hlt : i < R.length
  · rw [List.getElem?_append_left hlt] at hi
    obtain ⟨a', n', t', u', h1, h2⟩ := h.2 i p hi
    exact ⟨a', n', t', u', by rw [List.getElem?_append_left (by rw [h.1]; exact hlt)]; exact h1, h2⟩
  · have hi0 : i = R.length := by
      have : i < (R ++ [(x, y)]).length := by
        rcases Nat.lt_or_ge i (R ++ [(x, y)]).length with h | h
        · exact h
        · rw [List.getElem?_eq_none h] at hi; cases hi
      rw [List.length_append, List.length_singleton] at this
      omega
    subst hi0
    rw [List.getElem?_append_right (Nat.le_refl _), Nat.sub_self] at hi
    cases hi
    refine ⟨a, n, t, u, ?_, ha⟩
    rw [← h.1, List.getElem?_append_right (Nat.le_refl _), Nat.sub_self]; rfl
theorem TupsAre.reverse {T : List (Addr × Obj)} {vs : List Value} {R : List (Int × Int)} (h : TupsAre T vs R) : TupsAre T vs.reverse R.reverse := by
  refine ⟨by simp [h.1], fun i p hi => ?_⟩
  have hlt : i < R.length := by
    rcases Nat.lt_or_ge i R.length with h | h
    · exact h
    · rw [List.getElem?_eq_none (by simpa using h)] at hi; cases hi
  rw [List.getElem?_reverse hlt] at hi
  obtain ⟨a, n, t, u, h1, h2⟩ := h.2 _ p hi
  exact ⟨a, n, t, u, by rw [List.getElem?_reverse (by rw [h.1]; exact hlt), h.1]; exact h1, h2⟩
/-- all pieces so far are right: the list of RunWays.pieces behind its None -/
def PiecesOk (len p0 p1 p2 p3 : Int) (ms : List Int) (S : List (Int × Int)) : Prop := ∀ (i : Nat) (p : Int × Int), S[i]? = some p → PieceOk len ms p0 p1 p2 p3 ((i : Int) + 1) (gi ms ((i : Int) + 1)) p.1 p.2
theorem piece_app {len p0 p1 p2 p3 n b v sz sy : Int} {ms : List Int} (hl : 0 ≤ len ∧ len ≤ 15) (hn : 1 ≤ n) (hm : n ≤ ms.length) (h : PieceOk len ms p0 p1 p2 p3 n b sz sy) : PieceOk len (ms ++ [v]) p0 p1 p2 p3 n b sz sy := by
  have hz := piece_sz hl h hn
  have e : gi (ms ++ [v]) (n - sz) = gi ms (n - sz) := (gi_app (by omega) (by omega)).symm
  rcases h with ⟨rfl, rfl, hb⟩ | ⟨rfl, h1, h2, h3, hb⟩ | ⟨rfl, rfl, h1, h2, h3, hb⟩ | ⟨rfl, rfl, h1, h2, h3, hb⟩
  · exact .inl ⟨rfl, rfl, by rw [e]; exact hb⟩
  · exact .inr (.inl ⟨rfl, h1, h2, h3, by rw [e]; exact hb⟩)
  · exact .inr (.inr (.inl ⟨rfl, rfl, h1, h2, h3, by rw [e]; exact hb⟩))
  · exact .inr (.inr (.inr ⟨rfl, rfl, h1, h2, h3, by rw [e]; exact hb⟩))
theorem gi_last {ms : List Int} {v n : Int} (h : n = ms.length) : gi (ms ++ [v]) n = v := by
  subst h
  unfold gi
  rw [List.getD_eq_getElem?_getD, List.getElem?_append_right (by omega)]
  simp
theorem PiecesOk.add {len p0 p1 p2 p3 b sz sy : Int} {ms : List Int} {S : List (Int × Int)} (hl : 0 ≤ len ∧ len ≤ 15) (hS : ms.length = S.length + 1) (h : PiecesOk len p0 p1 p2 p3 ms S) (hp : PieceOk len ms p0 p1 p2 p3 ms.length b sz sy) : PiecesOk len p0 p1 p2 p3 (ms ++ [b]) (S ++ [(sz, sy)]) := by
  intro i p hi
  by_cases hlt : i < S.length
  · rw [List.getElem?_append_left hlt] at hi
    rw [← gi_app (by omega) (by omega)]
    exact piece_app hl (by omega) (by omega) (h i p hi)
  · have hi0 : i = S.length := by
      have : i < (S ++ [(sz, sy)]).length := by
        rcases Nat.lt_or_ge i (S ++ [(sz, sy)]).length with h | h
        · exact h
        · rw [List.getElem?_eq_none h] at hi; cases hi
      rw [List.length_append, List.length_singleton] at this
      omega
    subst hi0
    rw [List.getElem?_append_right (Nat.le_refl _), Nat.sub_self] at hi
    cases hi
    rw [gi_last (by omega)]
    have e : ((S.length : Int) + 1) = (ms.length : Int) := by omega
    rw [e]
    exact piece_app hl (by omega) (by omega) hp
theorem AllLeast.add {nt p0 p1 p2 p3 b : Int} {ms : List Int} (h : AllLeast nt p0 p1 p2 p3 ms ms.length) (hb : Least nt p0 p1 p2 p3 ms.length b) : AllLeast nt p0 p1 p2 p3 (ms ++ [b]) (ms ++ [b]).length := by
  intro i h0 h1
  rw [List.length_append, List.length_singleton] at h1
  by_cases hi : i < ms.length
  · rw [← gi_app h0 hi]; exact h i h0 hi
  · have e : i = ms.length := by omega
    rw [gi_last e, e]; exact hb
/-- the way down of RunWays.told -/
def Down (len p0 p1 p2 p3 : Int) (ms : List Int) (many left : Int) (ps : List (Int × Int)) : Prop := ∀ R, Told len p0 p1 p2 p3 ms left R → Told len p0 p1 p2 p3 ms many (R ++ ps.reverse)
theorem down_zero {len p0 p1 p2 p3 many : Int} {ms : List Int} : Down len p0 p1 p2 p3 ms many many [] := fun R h => by rw [List.reverse_nil, List.append_nil]; exact h
theorem down_step {len p0 p1 p2 p3 many left sz sy : Int} {ms : List Int} {ps : List (Int × Int)} (h : Down len p0 p1 p2 p3 ms many left ps) (h1 : 1 ≤ left) (hp : PieceOk len ms p0 p1 p2 p3 left (gi ms left) sz sy) : Down len p0 p1 p2 p3 ms many (left - sz) (ps ++ [(sy, restOf sy sz)]) := by
  intro R hR
  have := h _ (Told.step h1 hp hR)
  rw [List.reverse_append, List.reverse_singleton]
  rw [List.append_assoc] at this
  exact this
theorem down_end {len p0 p1 p2 p3 many : Int} {ms : List Int} {ps : List (Int × Int)} (h : Down len p0 p1 p2 p3 ms many 0 ps) : Told len p0 p1 p2 p3 ms many ps.reverse := by
  have := h [] Told.zero
  rw [List.nil_append] at this
  exact this
theorem rest_1 {sy sz : Int} {k : Tok} (h : sy = 18) : ∃ t', Value.int (sz - 11) k = Value.int (restOf sy sz) t' := ⟨k, by unfold restOf; rw [if_pos h]⟩
theorem rest_2 {sy sz : Int} {k : Tok} (h : ¬ sy = 18) (h2 : ([16, 17].any fun x => x == sy) = true) : ∃ t', Value.int (sz - 3) k = Value.int (restOf sy sz) t' := ⟨k, by
  unfold restOf
  have : sy = 16 ∨ sy = 17 := by
    simp only [List.any_cons, List.any_nil, Bool.or_false, Bool.or_eq_true, beq_iff_eq] at h2
    omega
  rw [if_neg h, if_pos this]⟩
theorem rest_3 {sy sz : Int} {k : Tok} (h : ¬ sy = 18) (h2 : ([16, 17].any fun x => x == sy) = false) : ∃ t', Value.int 0 k = Value.int (restOf sy sz) t' := ⟨k, by
  unfold restOf
  have : ¬ (sy = 16 ∨ sy = 17) := by
    rintro (rfl | rfl)
    · exact absurd h2 (by decide)
    · exact absurd h2 (by decide)
  rw [if_neg h, if_neg this]⟩

end
section
/-- the end of a while's turn -/
def WEnd {σ : Type} (h₀ : Heap) (L : Addr) (Led : σ → List (Addr × Obj)) (ps : σ → List (Str × Value)) (stored : List Str) (m₀ : Str → Option Value) (P : σ → Prop) (s₁ s₂ : Shared) : Prop :=
  ∃ (c : σ) (h' : Heap) (tk : Nat) (m' : Str → Option Value) (news' : List (Addr × Obj)), s₂ = { s₁ with heap := h', toks := tk } ∧ Fr h₀ L h' m' ∧ News h₀ L h' news' ∧ (∀ p ∈ Led c, p ∈ news') ∧
    (∀ p ∈ ps c, m' p.1 = some p.2) ∧ (∀ z, z ≠ PySem.Str.ofString "" → (∀ p ∈ ps c, z ≠ p.1) → stored.contains z = false → m' z = m₀ z) ∧ P c
def WPost {σ : Type} (h₀ : Heap) (L : Addr) (Led : σ → List (Addr × Obj)) (ps : σ → List (Str × Value)) (stored : List Str) (m₀ : Str → Option Value) (P : σ → Prop) (s₁ : Shared) (f : Flow) (s₂ : Shared) : Prop :=
  match f with
  | .next => WEnd h₀ L Led ps stored m₀ P s₁ s₂
  | _ => False
theorem wend {σ : Type} {h₀ : Heap} {L : Addr} {Led : σ → List (Addr × Obj)} {ps : σ → List (Str × Value)} {stored : List Str} {m₀ m' : Str → Option Value} {P : σ → Prop} {news' : List (Addr × Obj)} {s₁ : Shared} {h' : Heap} {tk : Nat} (c : σ)
    (F : Fr h₀ L h' m') (N : News h₀ L h' news') (hn : ∀ p ∈ Led c, p ∈ news') (hk : ∀ p ∈ ps c, m' p.1 = some p.2) (hr : ∀ z, z ≠ PySem.Str.ofString "" → (∀ p ∈ ps c, z ≠ p.1) → stored.contains z = false → m' z = m₀ z) (hp : P c) :
    WEnd h₀ L Led ps stored m₀ P s₁ { s₁ with heap := h', toks := tk } := ⟨c, h', tk, m', news', rfl, F, N, hn, hk, hr, hp⟩
section
variable {prog : Program} {w : World} {A : Around} {E : Value → Shared → Prop} {Q : Flow → Shared → Prop} {s : Shared} {env : Env} {h₀ : Heap} {L : Addr}
theorem while_free {σ : Type} {test : PySem.Expr} {body : List Stmt} {pos : Pos} {m₀ : Str → Option Value} (Led : σ → List (Addr × Obj)) (ps : σ → List (Str × Value)) (stored : List Str) (P : σ → Prop) (mu : σ → Nat) (c₀ : σ)
    (F : Fr h₀ L s.heap m₀) (N : News h₀ L s.heap (Led c₀)) (hk : ∀ p ∈ ps c₀, m₀ p.1 = some p.2) (hp : P c₀)
    (turn : ∀ c (u : Str → Option Value) h tk, P c → Fr h₀ L h (fun y => if y = PySem.Str.ofString "" then u y else kstB (fun z => if stored.contains z then u z else m₀ z) (ps c) y) → News h₀ L h (Led c) →
      wpAny (model prog w) A (isTrue test env (eval test env)) (fun b s₂ =>
        if b = true then wpAny (model prog w) A (execs body env) (WPost h₀ L Led ps stored m₀ (fun c' => P c' ∧ mu c' < mu c) { s with heap := h, toks := tk }) E s₂ else Q .next s₂) E { s with heap := h, toks := tk })
    (hE : PassesOwn (model prog w) A env E := by passes_own) :
    wpAny (model prog w) A (exec (.While test body [] pos) env) Q E s := by
  refine While_inv (fun n m news => ∃ c, n = mu c ∧ news = Led c ∧ (∀ p ∈ ps c, m p.1 = some p.2) ∧ (∀ z, z ≠ PySem.Str.ofString "" → (∀ p ∈ ps c, z ≠ p.1) → stored.contains z = false → m z = m₀ z) ∧ P c) F N ⟨c₀, rfl, rfl, hk, fun _ _ _ _ => rfl, hp⟩ ?_ hE
  rintro n m news h tk F1 N1 ⟨c, rfl, rfl, h1, h2, h3⟩
  refine wpAny_mono (turn c m h tk h3 (kst_frOut h1 h2 F1) N1) (fun b s₂ q => ?_) fun _ _ e => e
  cases b with
  | false => exact q
  | true =>
    refine wpAny_mono q (fun f s₃ q => ?_) fun _ _ e => e
    cases f with
    | next =>
      obtain ⟨c', h', tk', m', news', e, F', N', hn, hk', hr', hp', hm⟩ := q
      exact ⟨rfl, h', tk', m', Led c', mu c', e, F', fun p hp => N' p (hn p hp), hm, c', rfl, rfl, hk', hr', hp'⟩
    | ret v => exact q.elim
    | brk => exact q.elim
    | cont => exact q.elim
theorem item_val {value slice : PySem.Expr} {l : Addr} {vs : List Value} {n : Nat} {k : Int} {u : Tok} {v : Value} {news : List (Addr × Obj)} {Q : Value → Shared → Prop} (N : News h₀ L s.heap news) (hm : (l, listOf vs.toArray n) ∈ news) (h0 : 0 ≤ k) (h1 : k < 100000) (he : vs[k.toNat]? = some v) (h : Q v s)
    (hs : subscripted slice false (.ref l) (.int k u) = operate [.ref l, .int k u] (getItem (.ref l) (.int k u)) := by with_unfolding_all rfl) :
    wpAny (model prog w) A (subscriptTail value slice (.ref l) (.int k u)) Q E s := by
  have hl : s.heap.IsList l vs.toArray := News.isList N hm
  exact tail_any hl.typeIs slot_list_getitem.lookup (wpAny_getItem_list hl h0 (by omega) (by simpa using he) h) hs
end
theorem piece_at {tl : List (Addr × Obj)} {v0 : Value} {pvs : List Value} {S : List (Int × Int)} {len p0 p1 p2 p3 left : Int} {ms : List Int} (hT : TupsAre tl pvs S) (hP : PiecesOk len p0 p1 p2 p3 ms S) (h0 : 1 ≤ left) (h1 : left ≤ S.length) :
    ∃ (a : Addr) (n : Nat) (t u : Tok) (sz sy : Int), (v0 :: pvs)[left.toNat]? = some (.ref a) ∧ (a, tup2 (.int sz t) (.int sy u) n) ∈ tl ∧ PieceOk len ms p0 p1 p2 p3 left (gi ms left) sz sy := by
  have hi : (left - 1).toNat < S.length := by omega
  obtain ⟨a, n, t, u, h2, h3⟩ := hT.2 _ _ (List.getElem?_eq_getElem hi)
  refine ⟨a, n, t, u, S[(left - 1).toNat].1, S[(left - 1).toNat].2, ?_, h3, ?_⟩
  · have e : left.toNat = (left - 1).toNat + 1 := by omega
    rw [e, List.getElem?_cons_succ]; exact h2
  · have := hP _ _ (List.getElem?_eq_getElem hi)
    have e : ((left - 1).toNat : Int) + 1 = left := by omega
    rw [e] at this; exact this
section
variable {w : World} {A₀ : Around} {s : Shared} {base h₀ : Heap} {outer : List Env} {L : Addr} {m mg mb : Str → Option Value} {news : List (Addr × Obj)} {loose : List Str} {mean : ExcName → Option Value}
  {dp un : Nat} {gd : Option (List Code)} {cn : Str} {cs : Scope} {a : Addr} {ccd : Value} {cl : List (Str × Addr)} {Q E : Value → Shared → Prop}
theorem rest_con {x : Addr} {sy sz : Int} {t u : Tok}
    (B : Below A₀ base outer h₀) (F : Fr h₀ L s.heap m) (X₀ : (hd.heap_39 w.params).In h₀) (N : News h₀ L s.heap news) (T : Top hd.view_39 loose mean mg mb h₀)
    (hk : cs.kind = .function) (hdp : dp < 400) (hun : un < 4000)
    (ret : ∀ t' h' tk', Fr h₀ L h' m → News h₀ L h' news → Q (.int (restOf sy sz) t') { s with heap := h', toks := tk' }) :
    wpAny (model PySem.Challenge.rw_tk0114_01.row.prog w) (ktrTop dp un gd cn cs L a ccd cl outer) (call (.ref 79) [.ref x, .int sy t, .int sz u]) Q E s := by
  walk_at "FILL"
  k_with "ENTER" => (k_dflt (refine' code_sub ?kPost ?k1 ?k2 ?k3 ?k4 ?k5 ?kA ?kF ?kK ?k6 ?k7 ?k8 ?k9 ?kB ?kS ?kBody ?kRet ?c5 ?c2 ?c3 ?c4; (case kA => exact rfl); (case kF => exact rfl); (case kK => k_asm); (case k1 => k_asm); (case k2 => k_asm); (case k3 => k_asm); (case k4 => k_asm); (case k5 => k_asm); (case k6 => k_is); (case k7 => k_is); (case k8 => ktr_room); (case k9 => first | exact BindsTo.of_eq (rfl : bindArgs _ _ = pure [(_, _)]) | exact BindsTo.of_eq (rfl : bindArgs _ _ = pure [(_, _), (_, _)]) | exact BindsTo.of_eq (rfl : bindArgs _ _ = pure [(_, _), (_, _), (_, _)]) | exact BindsTo.of_eq (rfl : bindArgs _ _ = pure [(_, _), (_, _), (_, _), (_, _)]) | exact BindsTo.of_eq (rfl : bindArgs _ _ = pure [(_, _), (_, _), (_, _), (_, _), (_, _)]) | exact BindsTo.of_eq rfl); (case c5 => decide); (case kB => exact locs rfl); (case c2 => exact rfl); (case c3 => exact rfl); (case c4 => exact rfl)))
  k_with "RetP" => (((try dsimp only [flv]); refine RetP.owed (by k_asm) (by k_asm) ?_))
  k_with "newList" => ((k_here; k_dflt (refine' newList_L ?r3_k1 ?r3_k2 ?_; (case r3_k1 => k_asm); (case r3_k2 => k_asm); k_whole); intro r_l' r_h' r_F' r_N' r_l1; (try k_lt r_l1); (try k_sweep)))
  k_with "call builtin:list.append" => ((k_here; (with_reducible show wpAny _ _ (call (Value.builtin _) [Value.ref _, Value.int _ _]) _ _ _); k_dflt (refine' append_ints ?r4_k1 ?r4_k2 (fun o' => ?r4_k3) ?r4_hi ?r4_hl ?_; (case r4_k1 => k_asm); (case r4_k2 => k_asm); (case r4_k3 => k_upd); (case r4_hi => assumption); (case r4_hl => first | omega | (simp only [List.length_append, List.length_cons, List.length_nil] at *; omega)); k_whole); intro r_h' r_us' r_un' r_hI' r_F' r_N'; (try dsimp only at r_N'); (try k_sweep)))
  k_with "FreePost" => ((dsimp only [FreePost]))
  k_with "NOITER" => ((repeat' (first | exact List.forall_mem_nil _ | (refine List.forall_mem_cons.mpr ⟨?_, ?_⟩) | exact noIter_list _ _ | exact noIter_inst _ _ | exact noIter_dict _ _ | exact noIter_tup _ _ | exact noIter_cell (by assumption))))
  k_with "OWNIN" => ((intro r_p r_hp; k_ownIn))
  k_with "subscriptTail" => ((k_here; (with_reducible show wpAny _ _ (subscriptTail _ _ (Value.ref _) (Value.int _ _)) _ _ _); k_dflt (refine' item_bnd ?r8_N ?r8_hm ?r8_hi ?r8_h0 ?r8_h1 ?r8_h2 ?_; (case r8_N => k_asm); (case r8_hm => k_mem); (case r8_hi => assumption); (case r8_h0 => first | omega | k_extra "low"); (case r8_h1 => first | omega | k_extra "high"); (case r8_h2 => omega)); intro r_t'))
  k_with "ENTERC" => (k_dflt (refine' code_subC ?kPost ?k1 ?k2 ?k3 ?k4 ?k5 ?kA ?kF ?kK ?k6 ?k7 ?k8 ?k9 ?kB ?kD ?kS ?kBody ?kRet ?c2 ?c3 ?c4; (case kA => exact rfl); (case kF => exact rfl); (case kK => k_asm); (case k1 => k_asm); (case k2 => k_asm); (case k3 => k_asm); (case k4 => k_asm); (case k5 => k_asm); (case k6 => k_is); (case k7 => k_is); (case k8 => ktr_room); (case k9 => first | exact BindsTo.of_eq (rfl : bindArgs _ _ = pure [(_, _)]) | exact BindsTo.of_eq (rfl : bindArgs _ _ = pure [(_, _), (_, _)]) | exact BindsTo.of_eq (rfl : bindArgs _ _ = pure [(_, _), (_, _), (_, _)]) | exact BindsTo.of_eq (rfl : bindArgs _ _ = pure [(_, _), (_, _), (_, _), (_, _)]) | exact BindsTo.of_eq (rfl : bindArgs _ _ = pure [(_, _), (_, _), (_, _), (_, _), (_, _)]) | exact BindsTo.of_eq rfl); (case kB => exact rfl); (case kD => decide +kernel); (case c2 => exact rfl); (case c3 => exact rfl); (case c4 => exact rfl)))
  k_with "GROUNDC" => ((intro r_g' r_L' r_h' r_tk' r_cells' r_F' r_N' r_Y' r_l1 r_B' r_X' r_T' r_lN; k_lt r_l1; k_cells r_Y'; (try simp only [List.cons_append, List.nil_append] at r_N'); (try dsimp only)))
  k_with "call ref" => ((k_here; (with_reducible show wpAny _ _ (call (Value.ref 100) [Value.ref _, Value.int _ _]) _ _ _); k_dflt (refine' take_use ?r17_B ?r17_F ?r17_X ?r17_N ?r17_T ?r17_hk ?r17_hd ?r17_hu (fun o' => ?r17_U) ?r17_hi ?r17_hJ ?r17_hb ?r17_h5 ?r17_h6 ?_; (case r17_B => k_asm); (case r17_F => k_asm); (case r17_X => k_asm); (case r17_N => k_asm); (case r17_T => k_asm); (case r17_hk => first | exact rfl | assumption); (case r17_hd => ktr_room); (case r17_hu => ktr_units); (case r17_U => k_upd); (case r17_hi => assumption); (case r17_hJ => assumption); (case r17_hb => omega); (case r17_h5 => omega); (case r17_h6 => omega)); intro r_d' r_t' r_vs' r_n' r_ns' r_h' r_tk' r_hd1' r_hd2' r_hI' r_hJ' r_F' r_N'; (try dsimp only at r_N'); (try k_sweep)))
  k_with "call ref" => ((k_here; (with_reducible show wpAny _ _ (call (Value.ref 107) [Value.ref _]) _ _ _); k_dflt (refine' costs_use ?r18_B ?r18_F ?r18_X ?r18_N ?r18_T ?r18_hk ?r18_hd ?r18_hu (fun o' => ?r18_U) ?r18_hi ?r18_hJ ?r18_hb ?_; (case r18_B => k_asm); (case r18_F => k_asm); (case r18_X => k_asm); (case r18_N => k_asm); (case r18_T => k_asm); (case r18_hk => first | exact rfl | assumption); (case r18_hd => ktr_room); (case r18_hu => ktr_units); (case r18_U => k_upd); (case r18_hi => assumption); (case r18_hJ => assumption); (case r18_hb => omega)); intro r_l' r_us' r_ms' r_k' r_vs' r_n' r_ns' r_h' r_tk' r_l1 r_hI' r_hm8' r_hm20' r_hJ'' r_hJ' r_F' r_N'; (try k_lt r_l1); (try dsimp only at r_N'); (try k_sweep)))
  k_with "call ref" => ((k_here; (with_reducible show wpAny _ _ (call (Value.ref 114) [Value.ref _, Value.ref _]) _ _ _); k_dflt (refine' latest_con ?r19_B ?r19_F ?r19_X ?r19_N ?r19_T ?r19_hk ?r19_hd ?r19_hu ?r19_hc ?r19_ht ?r19_ci ?r19_ti ?r19_b1 ?r19_b2 ?_; (case r19_B => k_asm); (case r19_F => k_asm); (case r19_X => k_asm); (case r19_N => k_asm); (case r19_T => k_asm); (case r19_hk => first | exact rfl | assumption); (case r19_hd => ktr_room); (case r19_hu => ktr_units); (case r19_hc => k_mem); (case r19_ht => k_mem); (case r19_ci => assumption); (case r19_ti => assumption); (case r19_b1 => k_extra "there"); (case r19_b2 => omega)); intro r_v' r_h' r_tk' r_hv' r_F' r_N'; (try k_sweep); k_extra "latest"))
  k_with "call ref" => ((k_here; (with_reducible show wpAny _ _ (call (Value.ref 121) [Value.ref _, Value.ref _]) _ _ _); k_dflt (refine' waiting_con ?r20_B ?r20_F ?r20_X ?r20_N ?r20_T ?r20_hk ?r20_hd ?r20_hu ?r20_hc ?r20_ht ?r20_ci ?r20_ti ?r20_b1 ?r20_b2 ?r20_b3 ?_; (case r20_B => k_asm); (case r20_F => k_asm); (case r20_X => k_asm); (case r20_N => k_asm); (case r20_T => k_asm); (case r20_hk => first | exact rfl | assumption); (case r20_hd => ktr_room); (case r20_hu => ktr_units); (case r20_hc => k_mem); (case r20_ht => k_mem); (case r20_ci => assumption); (case r20_ti => assumption); (case r20_b1 => k_extra "there"); (case r20_b2 => omega); (case r20_b3 => first | omega | k_extra "therelen")); intro r_f' r_fvs' r_nf' r_h' r_tk' r_l1 r_hI' r_F' r_N'; (try simp only [List.forall_mem_cons] at r_l1); (try k_sweep); (try k_extra "waited")))
  k_with "call ref" => ((k_here; (with_reducible show wpAny _ _ (call (Value.ref 37) [Value.ref _, Value.int _ _]) _ _ _); (try k_extra "ahead"); k_dflt (refine' at_use ?r21_B ?r21_F ?r21_X ?r21_N ?r21_T ?r21_hk ?r21_hd ?r21_hu ?r21_hx ?r21_hdx ?r21_hc (fun o' => ?r21_U) ?r21_n1 ?r21_n2 ?r21_n3 ?r21_qi ?r21_ci ?r21_b0 ?r21_b1 ?r21_b2 ?r21_b3 ?r21_b4 ?r21_b5 ?_ ?_; (case r21_B => k_asm); (case r21_F => k_asm); (case r21_X => k_asm); (case r21_N => k_asm); (case r21_T => k_asm); (case r21_hk => first | exact rfl | assumption); (case r21_hd => ktr_room); (case r21_hu => ktr_units); (case r21_hx => k_mem); (case r21_hdx => k_mem); (case r21_hc => k_mem); (case r21_U => k_upd); (case r21_n1 => omega); (case r21_n2 => omega); (case r21_n3 => omega); (case r21_qi => assumption); (case r21_ci => assumption); (case r21_b0 => omega); (case r21_b1 => omega); (case r21_b2 => first | omega | k_extra "fresh"); (case r21_b3 => first | assumption | k_extra "queue"); (case r21_b4 => first | omega | k_extra "qlen"); (case r21_b5 => omega)); k_extra "at"))
  k_with "call ref" => ((k_here; (with_reducible show wpAny _ _ (call (Value.ref 40) [Value.int _ _, Value.int _ _, Value.ref _, Value.int _ _]) _ _ _); k_dflt (refine near_new4 (by k_asm) (by k_asm) (by k_asm) (by k_asm) (by k_asm) (by first | exact rfl | assumption) (by ktr_room) (by first | ktr_units | (simp only [units_under_make]; ktr_units)) ?_); intro r_x' r_d' r_q' r_k1' r_k2' r_k3' r_k4' r_k5' r_t1' r_t2' r_t3' r_nd' r_nq' r_h' r_tk' r_l1 r_l2 r_l3 r_F' r_N'; (try k_lt r_l1); (try k_sweep)))
  k_with "call ref" => ((k_here; (with_reducible show wpAny _ _ (call (Value.ref 40) [Value.int _ _, Value.int _ _, Value.ref _]) _ _ _); k_dflt (refine near_new3 (by k_asm) (by k_asm) (by k_asm) (by k_asm) (by k_asm) (by first | exact rfl | assumption) (by ktr_room) (by first | ktr_units | (simp only [units_under_make]; ktr_units)) ?_); intro r_x' r_d' r_q' r_k1' r_k2' r_k3' r_k4' r_k5' r_t1' r_t2' r_t3' r_nd' r_nq' r_h' r_tk' r_l1 r_l2 r_l3 r_F' r_N'; (try k_lt r_l1); (try k_sweep)))
  k_with "exec For Tuple Attribute cons nil" => ((k_here; (rename Fr _ _ _ _ => r_lF'); (with_unfolding_all refine' For_turns r_lF' ?_; k_whole)))
  k_with "newTuple" => ((k_here; k_dflt (refine' newTup_L ?r42_k1 ?r42_k2 ?_; (case r42_k1 => k_asm); (case r42_k2 => k_asm); k_whole); intro r_l' r_h' r_F' r_N' r_l1; (try k_lt r_l1); (try k_sweep)))
  k_with "call builtin:list.append" => ((k_here; (with_reducible show wpAny _ _ (call (Value.builtin _) [Value.ref _, Value.ref _]) _ _ _); k_dflt (refine' append_any ?r43_k1 ?r43_k2 (fun o' => ?r43_k3) ?r43_hl ?_; (case r43_k1 => k_asm); (case r43_k2 => k_asm); (case r43_k3 => k_upd); (case r43_hl => omega); k_whole); intro r_h' r_un' r_F' r_N'; (try dsimp only at r_N'); (try k_sweep)))
  k_with "pyIter ref" => ((k_here; (with_reducible show wpAny _ _ (pyIter (Value.ref _)) (fun it s₂ => TurnsAt _ _ _ _ _ _ _ _ _ it s₂) _ _); k_extra "turns"))
  refine wpAny_call ?_
  walk_at "ENTER"
  case kS => exact List.forall_mem_nil _
  case kPost => exact fun L' v sub' => ∃ t', v = .int (restOf sy sz) t'
  case kRet =>
    rintro L' r sub' h' tk' hlt F' hs hn _ ⟨t', rfl⟩
    exact ret t' h' tk' F' fun p hp => hn p hp (List.forall_mem_nil _)
  case kBody =>
    clear ret B F X₀ N T
    intro g' L' h' tk' F' N' B' X' T' _
    try dsimp only
    k_fold
    k_steps
    all_goals first
      | exact ⟨⟨[], List.forall_mem_nil _, rest_1 (by assumption)⟩⟩
      | exact ⟨⟨[], List.forall_mem_nil _, rest_2 (by assumption) (by assumption)⟩⟩
      | exact ⟨⟨[], List.forall_mem_nil _, rest_3 (by assumption) (by assumption)⟩⟩
theorem rest_use {x : Addr} {sy sz : Int} {t u : Tok}
    (B : Below A₀ base outer h₀) (F : Fr h₀ L s.heap m) (X₀ : (hd.heap_39 w.params).In h₀) (N : News h₀ L s.heap news) (T : Top hd.view_39 loose mean mg mb h₀)
    (hk : cs.kind = .function) (hdp : dp < 400) (hun : un < 4000)
    (ret : ∀ v t' h' tk', v = restOf sy sz → Fr h₀ L h' m → News h₀ L h' news → Q (.int v t') { s with heap := h', toks := tk' }) :
    wpAny (model PySem.Challenge.rw_tk0114_01.row.prog w) (ktrTop dp un gd cn cs L a ccd cl outer) (call (.ref 79) [.ref x, .int sy t, .int sz u]) Q E s :=
  rest_con B F X₀ N T hk hdp hun fun t' h' tk' F' N' => ret _ t' h' tk' rfl F' N'
end
/-- what is true at each turn of RunWays.told -/
def ToldInv (len p0 p1 p2 p3 : Int) (ms : List Int) (many : Int) (P : List (Addr × Obj)) (f : Addr) (left : Int) (fvs : List Value) (R : List (Int × Int)) (tl : List (Addr × Obj)) : Prop :=
  0 ≤ left ∧ left ≤ many ∧ (R.length : Int) + left ≤ many ∧ Down len p0 p1 p2 p3 ms many left R ∧ TupsAre tl fvs R ∧ (∀ p ∈ P, p ∈ tl) ∧ OwnOff tl [f]
theorem told_s0 {len p0 p1 p2 p3 : Int} {ms : List Int} {many : Int} {P : List (Addr × Obj)} {f : Addr} (h0 : 0 ≤ many) (hf : OwnOff P [f]) : ToldInv len p0 p1 p2 p3 ms many P f many [] [] P :=
  ⟨h0, Int.le_refl _, by simp, down_zero, TupsAre.nil, fun _ h => h, hf⟩
theorem told_s1 {len p0 p1 p2 p3 : Int} {ms : List Int} {many : Int} {P tl : List (Addr × Obj)} {f a : Addr} {left sz sy v : Int} {fvs : List Value} {R : List (Int × Int)} {t u : Tok} {n : Nat} (hl : 0 ≤ len ∧ len ≤ 15) (h : ToldInv len p0 p1 p2 p3 ms many P f left fvs R tl) (h1 : 0 < left)
    (hp : PieceOk len ms p0 p1 p2 p3 left (gi ms left) sz sy) (hv : v = restOf sy sz) (hf : @Ne Nat a f) : ToldInv len p0 p1 p2 p3 ms many P f (left - sz) (fvs ++ [.ref a]) (R ++ [(sy, v)]) ((a, tup2 (.int sy t) (.int v u) n) :: tl) ∧ (left - sz).toNat < left.toNat := by
  subst hv
  obtain ⟨a1, a2, a3, a4, a5, a6, a7⟩ := h
  obtain ⟨b1, b2, _, _⟩ := piece_sz hl hp (by omega)
  refine ⟨⟨b2, by omega, ?_, down_step a4 (by omega) hp, (a5.mono fun p hp => .tail _ hp).snoc (.head _), fun p hp => .tail _ (a6 p hp), ?_⟩, by omega⟩
  · rw [List.length_append, List.length_singleton]; omega
  · intro p hp b hb
    rcases List.mem_cons.mp hp with rfl | hp
    · rw [List.mem_singleton.mp hb]; exact hf
    · exact a7 p hp b hb
theorem told_end {len p0 p1 p2 p3 : Int} {ms : List Int} {many : Int} {P tl : List (Addr × Obj)} {f : Addr} {left : Int} {fvs : List Value} {R : List (Int × Int)} (h : ToldInv len p0 p1 p2 p3 ms many P f left fvs R tl) (h1 : ¬ 0 < left) : Told len p0 p1 p2 p3 ms many R.reverse ∧ TupsAre tl fvs.reverse R.reverse := by
  obtain ⟨a1, a2, a3, a4, a5, a6, a7⟩ := h
  have e : left = 0 := by omega
  subst e
  exact ⟨down_end a4, a5.reverse⟩
section
variable {prog : Program} {w : World} {A : Around} {E : Value → Shared → Prop} {Q : Flow → Shared → Prop} {s : Shared} {env : Env} {h₀ : Heap} {L : Addr}
theorem told_loop {test : PySem.Expr} {body : List Stmt} {pos : Pos} {m₀ : Str → Option Value} {f x dx pc : Addr} {ox odx opc : Obj} {P : List (Addr × Obj)} {nf : Nat} {len p0 p1 p2 p3 many : Int} {ms : List Int} {tm : Tok} {hp9 : Heap}
    (F9 : Fr h₀ L hp9 m₀) (N9 : News h₀ L hp9 ((f, listOf #[] nf) :: (x, ox) :: (dx, odx) :: (pc, opc) :: P)) (hhp : s.heap = hp9) (hk : m₀ (PySem.Str.ofString "left") = some (.int many tm)) (h0 : 0 ≤ many) (hf : OwnOff P [f])
    (turn : ∀ left t fvs nf R tl (u : Str → Option Value) h tk, ToldInv len p0 p1 p2 p3 ms many P f left fvs R tl → OwnOff tl [f] → fvs.length ≤ many → 
      Fr h₀ L h (fun y => if y = PySem.Str.ofString "" then u y else if y = PySem.Str.ofString "left" then some (.int left t) else if [PySem.Str.ofString "size", PySem.Str.ofString "symbol"].contains y then u y else m₀ y) → News h₀ L h ((f, listOf fvs.toArray nf) :: (x, ox) :: (dx, odx) :: (pc, opc) :: tl) →
      wpAny (model prog w) A (isTrue test env (eval test env)) (fun b s₂ =>
        if b = true then wpAny (model prog w) A (execs body env) (WPost h₀ L (fun c : Int × Tok × List Value × Nat × List (Int × Int) × List (Addr × Obj) => (f, listOf c.2.2.1.toArray c.2.2.2.1) :: (x, ox) :: (dx, odx) :: (pc, opc) :: c.2.2.2.2.2) (fun c => [(PySem.Str.ofString "left", Value.int c.1 c.2.1)]) [PySem.Str.ofString "size", PySem.Str.ofString "symbol"] m₀
          (fun c => ToldInv len p0 p1 p2 p3 ms many P f c.1 c.2.2.1 c.2.2.2.2.1 c.2.2.2.2.2 ∧ c.1.toNat < left.toNat) { s with heap := h, toks := tk }) E s₂ else Q .next s₂) E { s with heap := h, toks := tk })
    (hE : PassesOwn (model prog w) A env E := by passes_own) :
    wpAny (model prog w) A (exec (.While test body [] pos) env) Q E s := by
  subst hhp
  refine while_free (fun c : Int × Tok × List Value × Nat × List (Int × Int) × List (Addr × Obj) => (f, listOf c.2.2.1.toArray c.2.2.2.1) :: (x, ox) :: (dx, odx) :: (pc, opc) :: c.2.2.2.2.2) (fun c => [(PySem.Str.ofString "left", Value.int c.1 c.2.1)]) [PySem.Str.ofString "size", PySem.Str.ofString "symbol"]
    (fun c => ToldInv len p0 p1 p2 p3 ms many P f c.1 c.2.2.1 c.2.2.2.2.1 c.2.2.2.2.2) (fun c => c.1.toNat) (many, tm, [], nf, [], P) F9 N9 (List.forall_mem_cons.mpr ⟨hk, List.forall_mem_nil _⟩) (told_s0 h0 hf) ?_ hE
  rintro ⟨left, t, fvs, nf, R, tl⟩ u h tk hi F' N'
  refine turn left t fvs nf R tl u h tk hi hi.2.2.2.2.2.2 ?_ F' N'
  have h3 := hi.2.2.1
  have h1 := hi.1
  have h5 := hi.2.2.2.2.1.1
  dsimp only at h1 h3 h5 ⊢
  omega
end
theorem News.consIn {h₀ h : Heap} {L : Addr} {p : Addr × Obj} {news : List (Addr × Obj)} (hp : At h₀ L h p) (N : News h₀ L h news) : News h₀ L h (p :: news) := List.forall_mem_cons.mpr ⟨hp, N⟩
section
variable {w : World} {A₀ : Around} {s : Shared} {base h₀ : Heap} {outer : List Env} {L : Addr} {m mg mb : Str → Option Value} {news : List (Addr × Obj)} {loose : List Str} {mean : ExcName → Option Value}
  {dp un : Nat} {gd : Option (List Code)} {cn : Str} {cs : Scope} {a : Addr} {ccd : Value} {cl : List (Str × Addr)} {Q E : Value → Shared → Prop}
theorem told_con {x dx pr c pc kd : Addr} {len many p0 p1 p2 p3 : Int} {ms : List Int} {v0 : Value} {pvs : List Value} {S : List (Int × Int)} {P : List (Addr × Obj)} {nd npc : Nat} {e1 e2 e3 e4 e5 e6 tk : Tok}
    (B : Below A₀ base outer h₀) (F : Fr h₀ L s.heap m) (X₀ : (hd.heap_39 w.params).In h₀) (N : News h₀ L s.heap news) (T : Top hd.view_39 loose mean mg mb h₀)
    (hk : cs.kind = .function) (hdp : dp < 380) (hun : un < 3800)
    (hS : ∀ p ∈ (x, instObj 82 dx) :: (dx, waysDict w.params e1 e2 e3 e4 e5 e6 nd len pr c pc kd) :: (pc, listOf (v0 :: pvs).toArray npc) :: P, p ∈ news)
    (hP : TupsAre P pvs S) (hK : PiecesOk len p0 p1 p2 p3 ms S) (hl : 0 ≤ len ∧ len ≤ 15) (hm : 0 ≤ many ∧ many ≤ 20) (hmS : many ≤ S.length)
    (ret : ∀ (l : Addr) (vs : List Value) (nl : Nat) (R : List (Int × Int)) (tl : List (Addr × Obj)) h' tk', (∀ p ∈ news, p.1 < l) → Told len p0 p1 p2 p3 ms many R → TupsAre tl vs R → Fr h₀ L h' m → News h₀ L h' ((l, listOf vs.toArray nl) :: (tl ++ news)) → Q (.ref l) { s with heap := h', toks := tk' }) :
    wpAny (model PySem.Challenge.rw_tk0114_01.row.prog w) (ktrTop dp un gd cn cs L a ccd cl outer) (call (.ref 72) [.ref x, .int many tk]) Q E s := by
  unfold waysDict at hS
  walk_at "FILL"
  k_with "ENTER" => (k_dflt (refine' code_sub ?kPost ?k1 ?k2 ?k3 ?k4 ?k5 ?kA ?kF ?kK ?k6 ?k7 ?k8 ?k9 ?kB ?kS ?kBody ?kRet ?c5 ?c2 ?c3 ?c4; (case kA => exact rfl); (case kF => exact rfl); (case kK => k_asm); (case k1 => k_asm); (case k2 => k_asm); (case k3 => k_asm); (case k4 => k_asm); (case k5 => k_asm); (case k6 => k_is); (case k7 => k_is); (case k8 => ktr_room); (case k9 => first | exact BindsTo.of_eq (rfl : bindArgs _ _ = pure [(_, _)]) | exact BindsTo.of_eq (rfl : bindArgs _ _ = pure [(_, _), (_, _)]) | exact BindsTo.of_eq (rfl : bindArgs _ _ = pure [(_, _), (_, _), (_, _)]) | exact BindsTo.of_eq (rfl : bindArgs _ _ = pure [(_, _), (_, _), (_, _), (_, _)]) | exact BindsTo.of_eq (rfl : bindArgs _ _ = pure [(_, _), (_, _), (_, _), (_, _), (_, _)]) | exact BindsTo.of_eq rfl); (case c5 => decide); (case kB => exact locs rfl); (case c2 => exact rfl); (case c3 => exact rfl); (case c4 => exact rfl)))
  k_with "RetP" => (((try dsimp only [flv]); refine RetP.owed (by k_asm) (by k_asm) ?_))
  k_with "newList" => ((k_here; k_dflt (refine' newList_L ?r3_k1 ?r3_k2 ?_; (case r3_k1 => k_asm); (case r3_k2 => k_asm); k_whole); intro r_l' r_h' r_F' r_N' r_l1; (try k_lt r_l1); (try k_sweep)))
  k_with "call builtin:list.append" => ((k_here; (with_reducible show wpAny _ _ (call (Value.builtin _) [Value.ref _, Value.int _ _]) _ _ _); k_dflt (refine' append_ints ?r4_k1 ?r4_k2 (fun o' => ?r4_k3) ?r4_hi ?r4_hl ?_; (case r4_k1 => k_asm); (case r4_k2 => k_asm); (case r4_k3 => k_upd); (case r4_hi => assumption); (case r4_hl => first | omega | (simp only [List.length_append, List.length_cons, List.length_nil] at *; omega)); k_whole); intro r_h' r_us' r_un' r_hI' r_F' r_N'; (try dsimp only at r_N'); (try k_sweep)))
  k_with "FreePost" => ((dsimp only [FreePost]))
  k_with "NOITER" => ((repeat' (first | exact List.forall_mem_nil _ | (refine List.forall_mem_cons.mpr ⟨?_, ?_⟩) | exact noIter_list _ _ | exact noIter_inst _ _ | exact noIter_dict _ _ | exact noIter_tup _ _ | exact noIter_cell (by assumption))))
  k_with "OWNIN" => ((intro r_p r_hp; k_ownIn))
  k_with "subscriptTail" => ((k_here; (with_reducible show wpAny _ _ (subscriptTail _ _ (Value.ref _) (Value.int _ _)) _ _ _); k_dflt (refine' item_bnd ?r8_N ?r8_hm ?r8_hi ?r8_h0 ?r8_h1 ?r8_h2 ?_; (case r8_N => k_asm); (case r8_hm => k_mem); (case r8_hi => assumption); (case r8_h0 => first | omega | k_extra "low"); (case r8_h1 => first | omega | k_extra "high"); (case r8_h2 => omega)); intro r_t'))
  k_with "ENTERC" => (k_dflt (refine' code_subC ?kPost ?k1 ?k2 ?k3 ?k4 ?k5 ?kA ?kF ?kK ?k6 ?k7 ?k8 ?k9 ?kB ?kD ?kS ?kBody ?kRet ?c2 ?c3 ?c4; (case kA => exact rfl); (case kF => exact rfl); (case kK => k_asm); (case k1 => k_asm); (case k2 => k_asm); (case k3 => k_asm); (case k4 => k_asm); (case k5 => k_asm); (case k6 => k_is); (case k7 => k_is); (case k8 => ktr_room); (case k9 => first | exact BindsTo.of_eq (rfl : bindArgs _ _ = pure [(_, _)]) | exact BindsTo.of_eq (rfl : bindArgs _ _ = pure [(_, _), (_, _)]) | exact BindsTo.of_eq (rfl : bindArgs _ _ = pure [(_, _), (_, _), (_, _)]) | exact BindsTo.of_eq (rfl : bindArgs _ _ = pure [(_, _), (_, _), (_, _), (_, _)]) | exact BindsTo.of_eq (rfl : bindArgs _ _ = pure [(_, _), (_, _), (_, _), (_, _), (_, _)]) | exact BindsTo.of_eq rfl); (case kB => exact rfl); (case kD => decide +kernel); (case c2 => exact rfl); (case c3 => exact rfl); (case c4 => exact rfl)))
  k_with "GROUNDC" => ((intro r_g' r_L' r_h' r_tk' r_cells' r_F' r_N' r_Y' r_l1 r_B' r_X' r_T' r_lN; k_lt r_l1; k_cells r_Y'; (try simp only [List.cons_append, List.nil_append] at r_N'); (try dsimp only)))
  k_with "call ref" => ((k_here; (with_reducible show wpAny _ _ (call (Value.ref 100) [Value.ref _, Value.int _ _]) _ _ _); k_dflt (refine' take_use ?r17_B ?r17_F ?r17_X ?r17_N ?r17_T ?r17_hk ?r17_hd ?r17_hu (fun o' => ?r17_U) ?r17_hi ?r17_hJ ?r17_hb ?r17_h5 ?r17_h6 ?_; (case r17_B => k_asm); (case r17_F => k_asm); (case r17_X => k_asm); (case r17_N => k_asm); (case r17_T => k_asm); (case r17_hk => first | exact rfl | assumption); (case r17_hd => ktr_room); (case r17_hu => ktr_units); (case r17_U => k_upd); (case r17_hi => assumption); (case r17_hJ => assumption); (case r17_hb => omega); (case r17_h5 => omega); (case r17_h6 => omega)); intro r_d' r_t' r_vs' r_n' r_ns' r_h' r_tk' r_hd1' r_hd2' r_hI' r_hJ' r_F' r_N'; (try dsimp only at r_N'); (try k_sweep)))
  k_with "call ref" => ((k_here; (with_reducible show wpAny _ _ (call (Value.ref 107) [Value.ref _]) _ _ _); k_dflt (refine' costs_use ?r18_B ?r18_F ?r18_X ?r18_N ?r18_T ?r18_hk ?r18_hd ?r18_hu (fun o' => ?r18_U) ?r18_hi ?r18_hJ ?r18_hb ?_; (case r18_B => k_asm); (case r18_F => k_asm); (case r18_X => k_asm); (case r18_N => k_asm); (case r18_T => k_asm); (case r18_hk => first | exact rfl | assumption); (case r18_hd => ktr_room); (case r18_hu => ktr_units); (case r18_U => k_upd); (case r18_hi => assumption); (case r18_hJ => assumption); (case r18_hb => omega)); intro r_l' r_us' r_ms' r_k' r_vs' r_n' r_ns' r_h' r_tk' r_l1 r_hI' r_hm8' r_hm20' r_hJ'' r_hJ' r_F' r_N'; (try k_lt r_l1); (try dsimp only at r_N'); (try k_sweep)))
  k_with "call ref" => ((k_here; (with_reducible show wpAny _ _ (call (Value.ref 114) [Value.ref _, Value.ref _]) _ _ _); k_dflt (refine' latest_con ?r19_B ?r19_F ?r19_X ?r19_N ?r19_T ?r19_hk ?r19_hd ?r19_hu ?r19_hc ?r19_ht ?r19_ci ?r19_ti ?r19_b1 ?r19_b2 ?_; (case r19_B => k_asm); (case r19_F => k_asm); (case r19_X => k_asm); (case r19_N => k_asm); (case r19_T => k_asm); (case r19_hk => first | exact rfl | assumption); (case r19_hd => ktr_room); (case r19_hu => ktr_units); (case r19_hc => k_mem); (case r19_ht => k_mem); (case r19_ci => assumption); (case r19_ti => assumption); (case r19_b1 => k_extra "there"); (case r19_b2 => omega)); intro r_v' r_h' r_tk' r_hv' r_F' r_N'; (try k_sweep); k_extra "latest"))
  k_with "call ref" => ((k_here; (with_reducible show wpAny _ _ (call (Value.ref 121) [Value.ref _, Value.ref _]) _ _ _); k_dflt (refine' waiting_con ?r20_B ?r20_F ?r20_X ?r20_N ?r20_T ?r20_hk ?r20_hd ?r20_hu ?r20_hc ?r20_ht ?r20_ci ?r20_ti ?r20_b1 ?r20_b2 ?r20_b3 ?_; (case r20_B => k_asm); (case r20_F => k_asm); (case r20_X => k_asm); (case r20_N => k_asm); (case r20_T => k_asm); (case r20_hk => first | exact rfl | assumption); (case r20_hd => ktr_room); (case r20_hu => ktr_units); (case r20_hc => k_mem); (case r20_ht => k_mem); (case r20_ci => assumption); (case r20_ti => assumption); (case r20_b1 => k_extra "there"); (case r20_b2 => omega); (case r20_b3 => first | omega | k_extra "therelen")); intro r_f' r_fvs' r_nf' r_h' r_tk' r_l1 r_hI' r_F' r_N'; (try simp only [List.forall_mem_cons] at r_l1); (try k_sweep); (try k_extra "waited")))
  k_with "call ref" => ((k_here; (with_reducible show wpAny _ _ (call (Value.ref 37) [Value.ref _, Value.int _ _]) _ _ _); (try k_extra "ahead"); k_dflt (refine' at_use ?r21_B ?r21_F ?r21_X ?r21_N ?r21_T ?r21_hk ?r21_hd ?r21_hu ?r21_hx ?r21_hdx ?r21_hc (fun o' => ?r21_U) ?r21_n1 ?r21_n2 ?r21_n3 ?r21_qi ?r21_ci ?r21_b0 ?r21_b1 ?r21_b2 ?r21_b3 ?r21_b4 ?r21_b5 ?_ ?_; (case r21_B => k_asm); (case r21_F => k_asm); (case r21_X => k_asm); (case r21_N => k_asm); (case r21_T => k_asm); (case r21_hk => first | exact rfl | assumption); (case r21_hd => ktr_room); (case r21_hu => ktr_units); (case r21_hx => k_mem); (case r21_hdx => k_mem); (case r21_hc => k_mem); (case r21_U => k_upd); (case r21_n1 => omega); (case r21_n2 => omega); (case r21_n3 => omega); (case r21_qi => assumption); (case r21_ci => assumption); (case r21_b0 => omega); (case r21_b1 => omega); (case r21_b2 => first | omega | k_extra "fresh"); (case r21_b3 => first | assumption | k_extra "queue"); (case r21_b4 => first | omega | k_extra "qlen"); (case r21_b5 => omega)); k_extra "at"))
  k_with "call ref" => ((k_here; (with_reducible show wpAny _ _ (call (Value.ref 40) [Value.int _ _, Value.int _ _, Value.ref _, Value.int _ _]) _ _ _); k_dflt (refine near_new4 (by k_asm) (by k_asm) (by k_asm) (by k_asm) (by k_asm) (by first | exact rfl | assumption) (by ktr_room) (by first | ktr_units | (simp only [units_under_make]; ktr_units)) ?_); intro r_x' r_d' r_q' r_k1' r_k2' r_k3' r_k4' r_k5' r_t1' r_t2' r_t3' r_nd' r_nq' r_h' r_tk' r_l1 r_l2 r_l3 r_F' r_N'; (try k_lt r_l1); (try k_sweep)))
  k_with "call ref" => ((k_here; (with_reducible show wpAny _ _ (call (Value.ref 40) [Value.int _ _, Value.int _ _, Value.ref _]) _ _ _); k_dflt (refine near_new3 (by k_asm) (by k_asm) (by k_asm) (by k_asm) (by k_asm) (by first | exact rfl | assumption) (by ktr_room) (by first | ktr_units | (simp only [units_under_make]; ktr_units)) ?_); intro r_x' r_d' r_q' r_k1' r_k2' r_k3' r_k4' r_k5' r_t1' r_t2' r_t3' r_nd' r_nq' r_h' r_tk' r_l1 r_l2 r_l3 r_F' r_N'; (try k_lt r_l1); (try k_sweep)))
  k_with "exec For Tuple Attribute cons nil" => ((k_here; (rename Fr _ _ _ _ => r_lF'); (with_unfolding_all refine' For_turns r_lF' ?_; k_whole)))
  k_with "newTuple" => ((k_here; k_dflt (refine' newTup_L ?r42_k1 ?r42_k2 ?_; (case r42_k1 => k_asm); (case r42_k2 => k_asm); k_whole); intro r_l' r_h' r_F' r_N' r_l1; (try k_lt r_l1); (try k_sweep)))
  k_with "call builtin:list.append" => ((k_here; (with_reducible show wpAny _ _ (call (Value.builtin _) [Value.ref _, Value.ref _]) _ _ _); k_dflt (refine' append_any ?r43_k1 ?r43_k2 (fun o' => ?r43_k3) ?r43_hl ?_; (case r43_k1 => k_asm); (case r43_k2 => k_asm); (case r43_k3 => k_upd); (case r43_hl => omega); k_whole); intro r_h' r_un' r_F' r_N'; (try dsimp only at r_N'); (try k_sweep)))
  k_with "pyIter ref" => ((k_here; (with_reducible show wpAny _ _ (pyIter (Value.ref _)) (fun it s₂ => TurnsAt _ _ _ _ _ _ _ _ _ it s₂) _ _); k_extra "turns"))
  k_with "subscriptTail" => ((k_here; (with_reducible show wpAny _ _ (subscriptTail _ _ (Value.ref _) (Value.int _ _)) _ _ _); k_extra "piece"))
  k_with "subscriptTail Name Slice ref ref" => ((k_here; (with_reducible show wpAny _ _ (subscriptTail _ (PySem.Expr.Slice none none (some _) _) (Value.ref _) (Value.ref _)) _ _ _); k_dflt (refine' krv_lit ?r46_F ?r46_N ?r46_l ?r46_k ?r46_e ?_ ?r46_s ?r46_t ?r46_z; (case r46_F => k_asm); (case r46_N => k_asm); (case r46_l => exact News.isList (by k_asm) (by k_mem)); (case r46_k => exact IsPart.int _ _); (case r46_e => exact rfl); (case r46_s => with_unfolding_all rfl); (case r46_t => kmk_pure); (case r46_z => (rw [List.size_toArray, sizeLine_eq]; omega))); intro r_D' r_h' r_F' r_N' r_l1; (try k_lt r_l1); (try k_sweep)))
  k_with "WPost" => ((dsimp only [WPost]))
  k_with "call ref" => ((k_here; (with_reducible show wpAny _ _ (call (Value.ref 79) [Value.ref _, Value.int _ _, Value.int _ _]) _ _ _); k_dflt (refine' rest_use ?r48_B ?r48_F ?r48_X ?r48_N ?r48_T ?r48_hk ?r48_hd ?r48_hu ?_; (case r48_B => k_asm); (case r48_F => k_asm); (case r48_X => k_asm); (case r48_N => k_asm); (case r48_T => k_asm); (case r48_hk => first | exact rfl | assumption); (case r48_hd => ktr_room); (case r48_hu => ktr_units)); intro r_v' r_t' r_h' r_tk' r_e' r_F' r_N'; (try k_sweep)))
  refine wpAny_call ?_
  walk_at "ENTER"
  case kS => exact hS
  case kPost =>
    exact fun L' v sub' => ∃ (l : Addr) (vs : List Value) (nl : Nat) (R : List (Int × Int)) (tl : List (Addr × Obj)), v = .ref l ∧ L' < l ∧ Told len p0 p1 p2 p3 ms many R ∧ TupsAre tl vs R ∧ (∀ p ∈ P, p ∈ tl) ∧
      sub' = (l, listOf vs.toArray nl) :: (x, instObj 82 dx) :: (dx, waysDict w.params e1 e2 e3 e4 e5 e6 nd len pr c pc kd) :: (pc, listOf (v0 :: pvs).toArray npc) :: tl
  case kRet =>
    rintro L' r sub' h' tk' hlt F' hs hn hne ⟨l, vs, nl, R, tl, rfl, hL, h1, h2, h3, rfl⟩
    have a1 := List.forall_mem_cons.mp hs
    have a2 := List.forall_mem_cons.mp a1.2
    have a3 := List.forall_mem_cons.mp a2.2
    have a4 := List.forall_mem_cons.mp a3.2
    refine ret l vs nl R tl h' tk' (fun p hp => Nat.lt_trans (hlt p hp) hL) h1 h2 F' (List.forall_mem_cons.mpr ⟨a1.1, fun p hp => ?_⟩)
    rcases List.mem_append.mp hp with hp | hp
    · exact a4.2 p hp
    · exact newsSame N hS (List.forall_mem_cons.mpr ⟨a2.1, List.forall_mem_cons.mpr ⟨a3.1, List.forall_mem_cons.mpr ⟨a4.1, fun p hp => a4.2 p (h3 p hp)⟩⟩⟩) hn p hp
  case kBody =>
    have hPn : ∀ p ∈ P, p ∈ news := fun p hp => hS p (.tail _ (.tail _ (.tail _ hp)))
    clear ret B F X₀ N T hS
    intro g' L' h' tk' F' N' B' X' T' hlt
    try dsimp only
    k_fold
    k_with "exec While Compare cons nil" => (
      (rename Fr _ _ _ _ => lF'); (rename News _ _ _ _ => lN');
      (k_dflt (refine' told_loop (len := len) (p0 := p0) (p1 := p1) (p2 := p2) (p3 := p3) (ms := ms) lF' lN' rfl ?hk hm.1 ?hf ?turn));
      (case hk => exact rfl);
      (case hf => (intro p hp b hb; (rw [List.mem_singleton.mp hb]); (have h1 : @LT.lt Nat _ p.1 L' := hlt p (hPn p hp)); (refine neN ?_); omega));
      clear lF' lN';
      (case' turn => (
        intro left t fvs nf R tl u h tk hI hoff hlen kFr kNews;
        (have hl9 := hI.2.1);
        (have hl8 := hI.1);
        (try k_fold))))
    k_with "piece" => (
      (obtain ⟨a9, n9, t9, u9, sz9, sy9, hv9, hm9, hk9⟩ := piece_at (v0 := v0) (left := left) (hP.mono hI.2.2.2.2.2.1) hK (by omega) (by omega));
      (rename News _ _ _ _ => N9);
      (k_dflt (refine' item_val N9 ?hm ?h0 ?h1 hv9 ?_));
      (case hm => k_mem); (case h0 => omega); (case h1 => omega);
      (have N8 := News.consIn (N9 _ (.tail _ (.tail _ (.tail _ (.tail _ hm9))))) N9);
      (clear N9);
      (have ha9 : @Ne Nat a9 _ := hoff _ hm9 _ (.head _));
      (try k_fold))
    k_steps
    · (rename News _ _ _ _ => nE')
      (rename (_ = restOf _ _) => hv8); refine' wend ⟨left - sz9, _, fvs ++ [.ref _], _, R ++ [(sy9, restOf sy9 sz9)], (_, _) :: tl⟩ (by assumption) nE' ?hn ?hk ?hr ?hp
      case hk => kst_all
      case hn =>
        refine List.forall_mem_cons.mpr ⟨by k_memK, List.forall_mem_cons.mpr ⟨by k_memK, List.forall_mem_cons.mpr ⟨by k_memK, List.forall_mem_cons.mpr ⟨by k_memK, List.forall_mem_cons.mpr ⟨by k_memK, ?_⟩⟩⟩⟩⟩
        intro p hp
        repeat (first | exact hp | refine List.Mem.tail _ ?_)
      case hr => kst_same
      case hp => exact hv8 ▸ told_s1 hl hI (by assumption) hk9 hv8 (neN (by omega))
    · refine' ⟨⟨(_, _) :: (x, _) :: (dx, _) :: (pc, _) :: tl, ?sub, _, fvs.reverse, _, R.reverse, tl, rfl, ?lt, (told_end hI (by assumption)).1, (told_end hI (by assumption)).2, hI.2.2.2.2.2.1, rfl⟩⟩
      case sub =>
        refine List.forall_mem_cons.mpr ⟨by k_memK, List.forall_mem_cons.mpr ⟨by k_memK, List.forall_mem_cons.mpr ⟨by k_memK, List.forall_mem_cons.mpr ⟨by k_memK, ?_⟩⟩⟩⟩
        intro p hp
        repeat (first | exact hp | refine List.Mem.tail _ ?_)
      case lt => exact ltN (by omega)
end

end
section
theorem add_eq {ms Ps : List Int} {q k b p : Int} (h : gi Ps k + b = p) : ms.getD q.toNat 0 + Ps.getD (Int.toNat k) 0 + b = gi ms q + p := by rw [← h]; show gi ms q + gi Ps k + b = _; omega
theorem add_eq0 {ms Ps : List Int} {q k p : Int} (h : gi Ps k = p) : ms.getD q.toNat 0 + Ps.getD (Int.toNat k) 0 = gi ms q + p := by rw [← h]
theorem ifexp_cut {M : Model} {A : Around} {env : Env} {s : Shared} {e : PySem.Expr} {Q : Value → Shared → Prop} {E : Value → Shared → Prop} (P : Value → Prop)
    (h1 : wpAny M A (eval e env) (fun v s' => Owed (P v ∧ ∃ tk, s' = { s with toks := tk })) E s) (h2 : ∀ v tk, P v → Q v { s with toks := tk }) : wpAny M A (eval e env) Q E s :=
  wpAny_mono h1 (fun v s' h => by
    obtain ⟨hp, tk, rfl⟩ := h.out
    exact h2 v tk hp) fun _ _ x => x
noncomputable abbrev tup3 (v1 v2 v3 : Value) : Obj := { cls := .type "tuple", data := .seq [v1, v2, v3].toArray 0 }
/-- the for of RunWays.add, taken out of the function's record by unification -/
noncomputable def addFor (Pm : Params) : { q : Scope × Value × PySem.Expr × List Stmt // ∃ oc od name qual params s0 s2 s3 i pos dV kV doc pm an ct osl, (hd.heap_39 Pm).lookup 65 = some ⟨oc, od, .func (fnOf name qual params [s0, .For q.2.2.1 i q.2.2.2 [] pos, s2, s3] q.1 dV kV doc pm an q.2.1 ct), osl⟩ } :=
  ⟨(_, _, _, _), _, _, _, _, _, _, _, _, _, _, _, _, _, _, _, _, _, rfl⟩
theorem frame3 {m₀ : Str → Option Value} {a b c : Str} {v1 v2 v3 : Value} (h1 : m₀ a = some v1) (h2 : m₀ b = some v2) (h3 : m₀ c = some v3) :
    ∃ u₀ : Str → Option Value, m₀ = fun z => if z = a then some v1 else if z = b then some v2 else if z = c then some v3 else u₀ z := by
  refine ⟨m₀, funext fun z => ?_⟩
  by_cases a1 : z = a
  · rw [if_pos a1, a1, h1]
  by_cases a2 : z = b
  · rw [if_neg a1, if_pos a2, a2, h2]
  by_cases a3 : z = c
  · rw [if_neg a1, if_neg a2, if_pos a3, a3, h3]
  rw [if_neg a1, if_neg a2, if_neg a3]
theorem news_skip {h₀ h : Heap} {L : Addr} {x y : Addr × Obj} {l : List (Addr × Obj)} (N : News h₀ L h (x :: y :: l)) : News h₀ L h (x :: l) := fun p hp => N p ((List.mem_cons.mp hp).elim (fun e => e ▸ .head _) fun h => .tail _ (.tail _ h))
local macro_rules | `(tactic| k_mem) => `(tactic| assumption)
section
variable {w : World} {A₀ : Around} {s : Shared} {base h₀ : Heap} {outer : List Env} {L : Addr} {m mg mb : Str → Option Value} {news : List (Addr × Obj)} {loose : List Str} {mean : ExcName → Option Value}
  {dp un : Nat} {gd : Option (List Code)} {cn : Str} {cs : Scope} {a : Addr} {ccd : Value} {cl : List (Str × Addr)} {Rf : Flow → Shared → Prop}
/-- one kind's turn -/
theorem add_turn {g hp9 : Heap} {L9 : Addr} {tk : Nat} {m₀ : Str → Option Value} {x dx c pc pr kd t xk dk q bt : Addr} {len count p0 p1 p2 p3 sy f mx fi mo pk b sz sb : Int} {cvs pvs qv : List Value} {ms Ps ql : List Int} {nc np nd nt ndk nq : Nat} {e1 e2 e3 e4 e5 e6 tc y a1 a2 a3 a4 a5 a6 a7 a8 u1 u2 u3 : Tok} {R : List (Addr × Obj)}
    (B : Below (ktrTop dp un gd cn cs L a ccd cl outer) base (envX cn cs L a ccd cl :: outer) g) (X₀ : (hd.heap_39 w.params).In g) (T : Top hd.view_39 loose mean mg mb g)
    (hk : cs.kind = .function) (hdp : dp < 380) (hun : un < 3800)
    (F : Fr g L9 hp9 m₀) (f1 : m₀ (PySem.Str.ofString "best") = some (.ref bt)) (f2 : m₀ (PySem.Str.ofString "self") = some (.ref x)) (f3 : m₀ (PySem.Str.ofString "count") = some (.int count tc))
    (N : News g L9 hp9 ((bt, tup3 (.int b u1) (.int sz u2) (.int sb u3)) :: (q, listOf qv.toArray nq) :: R))
    (m1 : (x, instObj 82 dx) ∈ R) (m2 : (dx, waysDict w.params e1 e2 e3 e4 e5 e6 nd len pr c pc kd) ∈ R) (m3 : (c, listOf cvs.toArray nc) ∈ R) (m4 : (pr, listOf pvs.toArray np) ∈ R)
    (m5 : (t, tup2 (.int sy y) (.ref xk) nt) ∈ R) (m6 : (xk, instObj 40 dk) ∈ R) (m7 : (dk, nearDict w.params a1 a2 a3 a4 a5 a6 a7 a8 ndk fi f mx c q) ∈ R)
    (hR : OwnOff R [q]) (hbq : @Ne Nat bt q) (n1 : @Ne Nat q xk) (n2 : @Ne Nat q dk) (n3 : @Ne Nat q c)
    (hci : IntsAre cvs ms) (hpi : IntsAre pvs Ps) (hqi : IntsAre qv ql) (hq1 : ql = waitP ms (win f mx fi (count - 1)))
    (hms : (ms.length : Int) = count) (hcount : 1 ≤ count ∧ count ≤ 20) (hPs : Ps.length = 19) (hfm : 3 ≤ f ∧ f ≤ mx ∧ 0 ≤ fi) (hsy : 16 ≤ sy ∧ sy ≤ 18) (hmo : (sy = 16 ∧ mo = 2) ∨ (sy = 17 ∧ mo = 3) ∨ (sy = 18 ∧ mo = 7)) (hpk : gi Ps sy + mo = pk)
    (hP : PieceOk len ms p0 p1 p2 p3 count b sz sb) (hpo : ∀ i, fi ≤ i → f ≤ count - i → count - i ≤ mx → PieceOk len ms p0 p1 p2 p3 count (gi ms i + pk) (count - i) sy)
    (ret : ∀ h' tk' m' bt' b' sz' sb' u1' u2' u3' qv' nq', Fr g L9 h' m' → News g L9 h' ((bt', tup3 (.int b' u1') (.int sz' u2') (.int sb' u3')) :: (q, listOf qv'.toArray nq') :: R) → IntsAre qv' (waitP ms (win f mx fi count)) → b' ≤ b → PieceOk len ms p0 p1 p2 p3 count b' sz' sb' → LeAll ms f mx fi count pk b' → @LE.le Nat _ bt bt' →
      m' (PySem.Str.ofString "best") = some (.ref bt') → (∀ z, z ≠ PySem.Str.ofString "" → (∀ p ∈ [(PySem.Str.ofString "best", Value.ref bt')], z ≠ p.1) → [PySem.Str.ofString "symbol", PySem.Str.ofString "nearest", PySem.Str.ofString "ahead", PySem.Str.ofString "cost"].contains z = false → m' z = m₀ z) → Rf .next { s with heap := h', toks := tk' }) :
    wpAny (model PySem.Challenge.rw_tk0114_01.row.prog w) ((ktrTop dp un gd cn cs L a ccd cl outer).deeper (envOf (PySem.Str.ofString "RunWays.add") (addFor w.params).1.1 L9 65 (addFor w.params).1.2.1)) (assign (addFor w.params).1.2.2.1 (envOf (PySem.Str.ofString "RunWays.add") (addFor w.params).1.1 L9 65 (addFor w.params).1.2.1) (.ref t))
      (fun _ s₁ => wpAny (model PySem.Challenge.rw_tk0114_01.row.prog w) ((ktrTop dp un gd cn cs L a ccd cl outer).deeper (envOf (PySem.Str.ofString "RunWays.add") (addFor w.params).1.1 L9 65 (addFor w.params).1.2.1)) (execs (addFor w.params).1.2.2.2 (envOf (PySem.Str.ofString "RunWays.add") (addFor w.params).1.1 L9 65 (addFor w.params).1.2.1)) Rf (fun _ _ => False) s₁) (fun _ _ => False) { s with heap := hp9, toks := tk } := by
  obtain ⟨u₀, rfl⟩ := frame3 f1 f2 f3
  clear f1 f2 f3
  unfold waysDict at m2
  unfold nearDict at m7
  dsimp only [addFor]
  walk_at "FILL"
  k_with "ENTER" => (k_dflt (refine' code_sub ?kPost ?k1 ?k2 ?k3 ?k4 ?k5 ?kA ?kF ?kK ?k6 ?k7 ?k8 ?k9 ?kB ?kS ?kBody ?kRet ?c5 ?c2 ?c3 ?c4; (case kA => exact rfl); (case kF => exact rfl); (case kK => k_asm); (case k1 => k_asm); (case k2 => k_asm); (case k3 => k_asm); (case k4 => k_asm); (case k5 => k_asm); (case k6 => k_is); (case k7 => k_is); (case k8 => ktr_room); (case k9 => first | exact BindsTo.of_eq (rfl : bindArgs _ _ = pure [(_, _)]) | exact BindsTo.of_eq (rfl : bindArgs _ _ = pure [(_, _), (_, _)]) | exact BindsTo.of_eq (rfl : bindArgs _ _ = pure [(_, _), (_, _), (_, _)]) | exact BindsTo.of_eq (rfl : bindArgs _ _ = pure [(_, _), (_, _), (_, _), (_, _)]) | exact BindsTo.of_eq (rfl : bindArgs _ _ = pure [(_, _), (_, _), (_, _), (_, _), (_, _)]) | exact BindsTo.of_eq rfl); (case c5 => decide); (case kB => exact locs rfl); (case c2 => exact rfl); (case c3 => exact rfl); (case c4 => exact rfl)))
  k_with "RetP" => (((try dsimp only [flv]); refine RetP.owed (by k_asm) (by k_asm) ?_))
  k_with "newList" => ((k_here; k_dflt (refine' newList_L ?r3_k1 ?r3_k2 ?_; (case r3_k1 => k_asm); (case r3_k2 => k_asm); k_whole); intro r_l' r_h' r_F' r_N' r_l1; (try k_lt r_l1); (try k_sweep)))
  k_with "call builtin:list.append" => ((k_here; (with_reducible show wpAny _ _ (call (Value.builtin _) [Value.ref _, Value.int _ _]) _ _ _); k_dflt (refine' append_ints ?r4_k1 ?r4_k2 (fun o' => ?r4_k3) ?r4_hi ?r4_hl ?_; (case r4_k1 => k_asm); (case r4_k2 => k_asm); (case r4_k3 => k_upd); (case r4_hi => assumption); (case r4_hl => first | omega | (simp only [List.length_append, List.length_cons, List.length_nil] at *; omega)); k_whole); intro r_h' r_us' r_un' r_hI' r_F' r_N'; (try dsimp only at r_N'); (try k_sweep)))
  k_with "FreePost" => ((dsimp only [FreePost]))
  k_with "NOITER" => ((repeat' (first | exact List.forall_mem_nil _ | (refine List.forall_mem_cons.mpr ⟨?_, ?_⟩) | exact noIter_list _ _ | exact noIter_inst _ _ | exact noIter_dict _ _ | exact noIter_tup _ _ | exact noIter_cell (by assumption))))
  k_with "OWNIN" => ((intro r_p r_hp; k_ownIn))
  k_with "subscriptTail" => ((k_here; (with_reducible show wpAny _ _ (subscriptTail _ _ (Value.ref _) (Value.int _ _)) _ _ _); k_dflt (refine' item_bnd ?r8_N ?r8_hm ?r8_hi ?r8_h0 ?r8_h1 ?r8_h2 ?_; (case r8_N => k_asm); (case r8_hm => k_mem); (case r8_hi => assumption); (case r8_h0 => first | omega | k_extra "low"); (case r8_h1 => first | omega | k_extra "high"); (case r8_h2 => omega)); intro r_t'))
  k_with "ENTERC" => (k_dflt (refine' code_subC ?kPost ?k1 ?k2 ?k3 ?k4 ?k5 ?kA ?kF ?kK ?k6 ?k7 ?k8 ?k9 ?kB ?kD ?kS ?kBody ?kRet ?c2 ?c3 ?c4; (case kA => exact rfl); (case kF => exact rfl); (case kK => k_asm); (case k1 => k_asm); (case k2 => k_asm); (case k3 => k_asm); (case k4 => k_asm); (case k5 => k_asm); (case k6 => k_is); (case k7 => k_is); (case k8 => ktr_room); (case k9 => first | exact BindsTo.of_eq (rfl : bindArgs _ _ = pure [(_, _)]) | exact BindsTo.of_eq (rfl : bindArgs _ _ = pure [(_, _), (_, _)]) | exact BindsTo.of_eq (rfl : bindArgs _ _ = pure [(_, _), (_, _), (_, _)]) | exact BindsTo.of_eq (rfl : bindArgs _ _ = pure [(_, _), (_, _), (_, _), (_, _)]) | exact BindsTo.of_eq (rfl : bindArgs _ _ = pure [(_, _), (_, _), (_, _), (_, _), (_, _)]) | exact BindsTo.of_eq rfl); (case kB => exact rfl); (case kD => decide +kernel); (case c2 => exact rfl); (case c3 => exact rfl); (case c4 => exact rfl)))
  k_with "GROUNDC" => ((intro r_g' r_L' r_h' r_tk' r_cells' r_F' r_N' r_Y' r_l1 r_B' r_X' r_T' r_lN; k_lt r_l1; k_cells r_Y'; (try simp only [List.cons_append, List.nil_append] at r_N'); (try dsimp only)))
  k_with "call ref" => ((k_here; (with_reducible show wpAny _ _ (call (Value.ref 100) [Value.ref _, Value.int _ _]) _ _ _); k_dflt (refine' take_use ?r17_B ?r17_F ?r17_X ?r17_N ?r17_T ?r17_hk ?r17_hd ?r17_hu (fun o' => ?r17_U) ?r17_hi ?r17_hJ ?r17_hb ?r17_h5 ?r17_h6 ?_; (case r17_B => k_asm); (case r17_F => k_asm); (case r17_X => k_asm); (case r17_N => k_asm); (case r17_T => k_asm); (case r17_hk => first | exact rfl | assumption); (case r17_hd => ktr_room); (case r17_hu => ktr_units); (case r17_U => k_upd); (case r17_hi => assumption); (case r17_hJ => assumption); (case r17_hb => omega); (case r17_h5 => omega); (case r17_h6 => omega)); intro r_d' r_t' r_vs' r_n' r_ns' r_h' r_tk' r_hd1' r_hd2' r_hI' r_hJ' r_F' r_N'; (try dsimp only at r_N'); (try k_sweep)))
  k_with "call ref" => ((k_here; (with_reducible show wpAny _ _ (call (Value.ref 107) [Value.ref _]) _ _ _); k_dflt (refine' costs_use ?r18_B ?r18_F ?r18_X ?r18_N ?r18_T ?r18_hk ?r18_hd ?r18_hu (fun o' => ?r18_U) ?r18_hi ?r18_hJ ?r18_hb ?_; (case r18_B => k_asm); (case r18_F => k_asm); (case r18_X => k_asm); (case r18_N => k_asm); (case r18_T => k_asm); (case r18_hk => first | exact rfl | assumption); (case r18_hd => ktr_room); (case r18_hu => ktr_units); (case r18_U => k_upd); (case r18_hi => assumption); (case r18_hJ => assumption); (case r18_hb => omega)); intro r_l' r_us' r_ms' r_k' r_vs' r_n' r_ns' r_h' r_tk' r_l1 r_hI' r_hm8' r_hm20' r_hJ'' r_hJ' r_F' r_N'; (try k_lt r_l1); (try dsimp only at r_N'); (try k_sweep)))
  k_with "call ref" => ((k_here; (with_reducible show wpAny _ _ (call (Value.ref 114) [Value.ref _, Value.ref _]) _ _ _); k_dflt (refine' latest_con ?r19_B ?r19_F ?r19_X ?r19_N ?r19_T ?r19_hk ?r19_hd ?r19_hu ?r19_hc ?r19_ht ?r19_ci ?r19_ti ?r19_b1 ?r19_b2 ?_; (case r19_B => k_asm); (case r19_F => k_asm); (case r19_X => k_asm); (case r19_N => k_asm); (case r19_T => k_asm); (case r19_hk => first | exact rfl | assumption); (case r19_hd => ktr_room); (case r19_hu => ktr_units); (case r19_hc => k_mem); (case r19_ht => k_mem); (case r19_ci => assumption); (case r19_ti => assumption); (case r19_b1 => k_extra "there"); (case r19_b2 => omega)); intro r_v' r_h' r_tk' r_hv' r_F' r_N'; (try k_sweep); k_extra "latest"))
  k_with "call ref" => ((k_here; (with_reducible show wpAny _ _ (call (Value.ref 121) [Value.ref _, Value.ref _]) _ _ _); k_dflt (refine' waiting_con ?r20_B ?r20_F ?r20_X ?r20_N ?r20_T ?r20_hk ?r20_hd ?r20_hu ?r20_hc ?r20_ht ?r20_ci ?r20_ti ?r20_b1 ?r20_b2 ?r20_b3 ?_; (case r20_B => k_asm); (case r20_F => k_asm); (case r20_X => k_asm); (case r20_N => k_asm); (case r20_T => k_asm); (case r20_hk => first | exact rfl | assumption); (case r20_hd => ktr_room); (case r20_hu => ktr_units); (case r20_hc => k_mem); (case r20_ht => k_mem); (case r20_ci => assumption); (case r20_ti => assumption); (case r20_b1 => k_extra "there"); (case r20_b2 => omega); (case r20_b3 => first | omega | k_extra "therelen")); intro r_f' r_fvs' r_nf' r_h' r_tk' r_l1 r_hI' r_F' r_N'; (try simp only [List.forall_mem_cons] at r_l1); (try k_sweep); (try k_extra "waited")))
  k_with "call ref" => ((k_here; (with_reducible show wpAny _ _ (call (Value.ref 37) [Value.ref _, Value.int _ _]) _ _ _); (try k_extra "ahead"); k_dflt (refine' at_use ?r21_B ?r21_F ?r21_X ?r21_N ?r21_T ?r21_hk ?r21_hd ?r21_hu ?r21_hx ?r21_hdx ?r21_hc (fun o' => ?r21_U) ?r21_n1 ?r21_n2 ?r21_n3 ?r21_qi ?r21_ci ?r21_b0 ?r21_b1 ?r21_b2 ?r21_b3 ?r21_b4 ?r21_b5 ?_ ?_; (case r21_B => k_asm); (case r21_F => k_asm); (case r21_X => k_asm); (case r21_N => k_asm); (case r21_T => k_asm); (case r21_hk => first | exact rfl | assumption); (case r21_hd => ktr_room); (case r21_hu => ktr_units); (case r21_hx => k_mem); (case r21_hdx => k_mem); (case r21_hc => k_mem); (case r21_U => k_upd); (case r21_n1 => omega); (case r21_n2 => omega); (case r21_n3 => omega); (case r21_qi => assumption); (case r21_ci => assumption); (case r21_b0 => omega); (case r21_b1 => omega); (case r21_b2 => first | omega | k_extra "fresh"); (case r21_b3 => first | assumption | k_extra "queue"); (case r21_b4 => first | omega | k_extra "qlen"); (case r21_b5 => omega)); k_extra "at"))
  k_with "call ref" => ((k_here; (with_reducible show wpAny _ _ (call (Value.ref 40) [Value.int _ _, Value.int _ _, Value.ref _, Value.int _ _]) _ _ _); k_dflt (refine near_new4 (by k_asm) (by k_asm) (by k_asm) (by k_asm) (by k_asm) (by first | exact rfl | assumption) (by ktr_room) (by first | ktr_units | (simp only [units_under_make]; ktr_units)) ?_); intro r_x' r_d' r_q' r_k1' r_k2' r_k3' r_k4' r_k5' r_t1' r_t2' r_t3' r_nd' r_nq' r_h' r_tk' r_l1 r_l2 r_l3 r_F' r_N'; (try k_lt r_l1); (try k_sweep)))
  k_with "call ref" => ((k_here; (with_reducible show wpAny _ _ (call (Value.ref 40) [Value.int _ _, Value.int _ _, Value.ref _]) _ _ _); k_dflt (refine near_new3 (by k_asm) (by k_asm) (by k_asm) (by k_asm) (by k_asm) (by first | exact rfl | assumption) (by ktr_room) (by first | ktr_units | (simp only [units_under_make]; ktr_units)) ?_); intro r_x' r_d' r_q' r_k1' r_k2' r_k3' r_k4' r_k5' r_t1' r_t2' r_t3' r_nd' r_nq' r_h' r_tk' r_l1 r_l2 r_l3 r_F' r_N'; (try k_lt r_l1); (try k_sweep)))
  k_with "exec For Tuple Attribute cons nil" => ((k_here; (rename Fr _ _ _ _ => r_lF'); (with_unfolding_all refine' For_turns r_lF' ?_; k_whole)))
  k_with "newTuple" => ((k_here; k_dflt (refine' newTup_L ?r42_k1 ?r42_k2 ?_; (case r42_k1 => k_asm); (case r42_k2 => k_asm); k_whole); intro r_l' r_h' r_F' r_N' r_l1; (try k_lt r_l1); (try k_sweep)))
  k_with "call builtin:list.append" => ((k_here; (with_reducible show wpAny _ _ (call (Value.builtin _) [Value.ref _, Value.ref _]) _ _ _); k_dflt (refine' append_any ?r43_k1 ?r43_k2 (fun o' => ?r43_k3) ?r43_hl ?_; (case r43_k1 => k_asm); (case r43_k2 => k_asm); (case r43_k3 => k_upd); (case r43_hl => omega); k_whole); intro r_h' r_un' r_F' r_N'; (try dsimp only at r_N'); (try k_sweep)))
  k_with "pyIter ref" => ((k_here; (with_reducible show wpAny _ _ (pyIter (Value.ref _)) (fun it s₂ => TurnsAt _ _ _ _ _ _ _ _ _ it s₂) _ _); k_extra "turns"))
  k_with "eval Subscript Name Name" => ((k_here; (fail_if_success (with_reducible show wpAny _ _ _ (fun _ _ => Owed _) _ _)); k_extra "more"))
  show wpAny _ _ _ _ _ _
  k_fold
  k_with "more" => (
    (k_dflt (refine ifexp_cut (fun v => ∃ t, v = .int mo t) ?_ ?_));
    rotate_left; (rintro _ tk8 ⟨t8, rfl⟩); rotate_left;
    (rcases hmo with ⟨rfl, rfl⟩ | ⟨rfl, rfl⟩ | ⟨rfl, rfl⟩))
  k_with "fresh" => omega
  k_with "queue" => exact near_queue hq1 (by omega) (by omega) (by omega)
  k_with "qlen" => exact near_qlen hq1 (by omega)
  k_with "at" => ((intro h8 tk8 hlt8 F8 N8; (try dsimp only at N8); (have hq8 := run_qN hq1 hlt8); (try k_sweep); (try k_fold)); rotate_left; (intro h8 tk8 t8 qs8 nq8 hge8 hq8 F8 N8; (rw [run_at hq1 (by omega) (by omega) hge8 (by omega)] at hq8 ⊢); (have hb8 := bestAt (ms := ms) hge8 (m := mx) (by omega) (by omega)); (revert hb8; (generalize (waitP ms (win f mx fi count)).headD 0 = q8); intro hb8); (have he8 := add_eq (ms := ms) (q := q8) hpk); (have hr8 := hb8.rng); (try dsimp only at N8); (try k_sweep); (try k_fold)))
  k_steps
  all_goals first
    | exact ⟨⟨⟨_, rfl⟩, ⟨_, rfl⟩⟩⟩
    | ((rename Fr _ _ _ _ => fE'); (rename News _ _ _ _ => nE'); first
      | exact ret _ _ _ _ _ _ _ _ _ _ _ _ fE' nE' (hq8 ▸ hqi) (Int.le_refl _) hP (LeAll.none hlt8) (Nat.le_refl _) rfl (by kst_same)
      | exact ret _ _ _ _ _ _ _ _ _ _ _ _ fE' nE' hq8 (Int.le_refl _) hP (LeAll.some hb8 (by omega)) (Nat.le_refl _) rfl (by kst_same)
      | exact ret _ _ _ _ _ _ _ _ _ _ _ _ fE' (news_skip nE') hq8 (by omega) (he8 ▸ hpo _ hr8.1 hr8.2.1 hr8.2.2) (LeAll.some hb8 (by omega)) (Nat.le_of_lt (by omega)) rfl (by kst_same))
end

end
section
set_option genInjectivity false
set_option genSizeOf false
/-- what stays of a RunWays' kind: its pair, its Nearest, that one's dict -/
structure Nf where
  t : Addr
  x : Addr
  d : Addr
  q : Addr
  sy : Int
  f : Int
  m : Int
  fi : Int
  nt : Nat
  nd : Nat
  y : Tok
  a1 : Tok
  a2 : Tok
  a3 : Tok
  a4 : Tok
  a5 : Tok
  a6 : Tok
  a7 : Tok
  a8 : Tok
/-- what changes: its queue -/
structure Nq where
  qv : List Value
  ql : List Int
  nq : Nat
noncomputable def Nf.fix (Pm : Params) (c : Addr) (k : Nf) : List (Addr × Obj) := [(k.t, tup2 (.int k.sy k.y) (.ref k.x) k.nt), (k.x, instObj 40 k.d), (k.d, nearDict Pm k.a1 k.a2 k.a3 k.a4 k.a5 k.a6 k.a7 k.a8 k.nd k.fi k.f k.m c k.q)]
noncomputable def Nf.que (k : Nf) (q : Nq) : Addr × Obj := (k.q, listOf q.qv.toArray q.nq)
noncomputable def zipQ (ks : List Nf) (qs : List Nq) : List (Addr × Obj) := List.zipWith Nf.que ks qs
noncomputable def fixs (Pm : Params) (c kd : Addr) (nk : Nat) (ks : List Nf) : List (Addr × Obj) := (kd, listOf (ks.map fun k => Value.ref k.t).toArray nk) :: ks.flatMap (Nf.fix Pm c)
/-- one of the three kinds -/
def KOk (len : Int) (k : Nf) : Prop := (k.sy = 16 ∧ k.f = 3 ∧ k.m = 6 ∧ k.fi = (if len = 0 then 1 else 0)) ∨ (len = 0 ∧ k.sy = 17 ∧ k.f = 3 ∧ k.m = 10 ∧ k.fi = 0) ∨ (len = 0 ∧ k.sy = 18 ∧ k.f = 11 ∧ k.m = 138 ∧ k.fi = 0)
def PricesOk (Ps : List Int) (len p0 p1 p2 p3 : Int) : Prop := Ps.length = 19 ∧ gi Ps len = p0 ∧ gi Ps 16 + 2 = p1 ∧ gi Ps 17 + 3 = p2 ∧ gi Ps 18 + 7 = p3
def pkOf (p1 p2 p3 sy : Int) : Int := if sy = 16 then p1 else if sy = 17 then p2 else p3
def moOf (sy : Int) : Int := if sy = 16 then 2 else if sy = 17 then 3 else 7
theorem KOk.num {len : Int} {k : Nf} (h : KOk len k) : (3 ≤ k.f ∧ k.f ≤ k.m ∧ 0 ≤ k.fi) ∧ (16 ≤ k.sy ∧ k.sy ≤ 18) ∧ ((k.sy = 16 ∧ moOf k.sy = 2) ∨ (k.sy = 17 ∧ moOf k.sy = 3) ∨ (k.sy = 18 ∧ moOf k.sy = 7)) := by
  unfold moOf
  rcases h with ⟨h1, h2, h3, h4⟩ | ⟨_, h1, h2, h3, h4⟩ | ⟨_, h1, h2, h3, h4⟩ <;> rw [h1, h2, h3, h4]
  · refine ⟨⟨by decide, by decide, ?_⟩, by decide, .inl ⟨rfl, rfl⟩⟩
    split <;> decide
  · exact ⟨by decide, by decide, .inr (.inl ⟨rfl, rfl⟩)⟩
  · exact ⟨by decide, by decide, .inr (.inr ⟨rfl, rfl⟩)⟩
theorem KOk.price {len p0 p1 p2 p3 : Int} {Ps : List Int} {k : Nf} (h : KOk len k) (hP : PricesOk Ps len p0 p1 p2 p3) : gi Ps k.sy + moOf k.sy = pkOf p1 p2 p3 k.sy := by
  obtain ⟨_, _, r3, r4, r5⟩ := hP
  unfold moOf pkOf
  rcases h with ⟨h1, _⟩ | ⟨_, h1, _⟩ | ⟨_, h1, _⟩ <;> rw [h1]
  · exact r3
  · exact r4
  · exact r5
theorem KOk.piece {len p0 p1 p2 p3 count i : Int} {ms : List Int} {k : Nf} (h : KOk len k) (h1 : k.fi ≤ i) (h2 : k.f ≤ count - i) (h3 : count - i ≤ k.m) : PieceOk len ms p0 p1 p2 p3 count (gi ms i + pkOf p1 p2 p3 k.sy) (count - i) k.sy := by
  have e : count - (count - i) = i := by omega
  unfold PieceOk pkOf
  rw [e]
  rcases h with ⟨a1, a2, a3, a4⟩ | ⟨a0, a1, a2, a3, a4⟩ | ⟨a0, a1, a2, a3, a4⟩ <;> rw [a2] at h2 <;> rw [a3] at h3 <;> rw [a4] at h1 <;> rw [a1]
  · exact .inr (.inl ⟨rfl, h2, h3, h1, rfl⟩)
  · exact .inr (.inr (.inl ⟨a0, rfl, h2, h3, h1, rfl⟩))
  · exact .inr (.inr (.inr ⟨a0, rfl, h2, h3, h1, rfl⟩))
def QOk (ms : List Int) (n : Int) (k : Nf) (q : Nq) : Prop := IntsAre q.qv q.ql ∧ q.ql = waitP ms (win k.f k.m k.fi n)
/-- the queues while the i-th kind is at its turn -/
def QAt (ms : List Int) (count : Int) : Nat → List Nf → List Nq → Prop
  | _, [], [] => True
  | 0, k :: ks, q :: qs => QOk ms (count - 1) k q ∧ QAt ms count 0 ks qs
  | i + 1, k :: ks, q :: qs => QOk ms count k q ∧ QAt ms count i ks qs
  | _, _, _ => False
def QAll (ms : List Int) (n : Int) : List Nf → List Nq → Prop
  | [], [] => True
  | k :: ks, q :: qs => QOk ms n k q ∧ QAll ms n ks qs
  | _, _ => False
theorem QAll.start {ms : List Int} {count : Int} : ∀ {ks : List Nf} {qs : List Nq}, QAll ms (count - 1) ks qs → QAt ms count 0 ks qs
  | [], [], _ => trivial
  | _ :: _, _ :: _, h => ⟨h.1, h.2.start⟩
theorem QAt.fin {ms : List Int} {count : Int} : ∀ {ks : List Nf} {qs : List Nq}, QAt ms count ks.length ks qs → QAll ms count ks qs
  | [], [], _ => trivial
  | _ :: _, _ :: _, h => ⟨h.1, QAt.fin h.2⟩
theorem QAll.app {ms : List Int} {count b : Int} (hc : count ≤ ms.length) : ∀ {ks : List Nf} {qs : List Nq}, (∀ k ∈ ks, 3 ≤ k.f ∧ 0 ≤ k.fi) → QAll ms count ks qs → QAll (ms ++ [b]) count ks qs
  | [], [], _, _ => trivial
  | k :: _, _ :: _, hk, h => ⟨⟨h.1.1, h.1.2.trans (waitP_app1 (hk k (.head _)).2 hc (Int.le_trans (by decide) (hk k (.head _)).1))⟩, h.2.app hc fun k hk' => hk k (.tail _ hk')⟩
theorem zipQ_addr {ks : List Nf} : ∀ {qs : List Nq}, ∀ p ∈ zipQ ks qs, ∃ k ∈ ks, p.1 = k.q := by
  induction ks with
  | nil => intro qs p hp; cases hp
  | cons k ks ih =>
    intro qs p hp
    cases qs with
    | nil => cases hp
    | cons q qs =>
      rcases List.mem_cons.mp hp with rfl | hp
      · exact ⟨_, .head _, rfl⟩
      · obtain ⟨k', h1, h2⟩ := ih p hp
        exact ⟨k', .tail _ h1, h2⟩
theorem zipQ_app {k : Nf} {q : Nq} {ks : List Nf} {qs : List Nq} : zipQ (k :: ks) (q :: qs) = k.que q :: zipQ ks qs := rfl
/-- the turn's queue, taken out of the others -/
theorem QAt.turn {ms : List Int} {count : Int} {k : Nf} {ks : List Nf} : ∀ {i : Nat} {qs : List Nq}, (ks.map Nf.q).Nodup → ks[i]? = some k → QAt ms count i ks qs →
    ∃ q za zb, QOk ms (count - 1) k q ∧ zipQ ks qs = za ++ k.que q :: zb ∧ (∀ p ∈ za ++ zb, p.1 ≠ k.q) ∧ ∀ q', QOk ms count k q' → ∃ qs', zipQ ks qs' = za ++ k.que q' :: zb ∧ QAt ms count (i + 1) ks qs' := by
  induction ks with
  | nil => intro i qs _ h; cases h
  | cons k0 ks ih =>
    intro i qs hn hk h
    cases qs with
    | nil => cases i <;> exact h.elim
    | cons q0 qs =>
      have hn' := List.nodup_cons.mp hn
      cases i with
      | zero =>
        cases hk
        refine ⟨q0, [], zipQ ks qs, h.1, rfl, fun p hp e => ?_, fun q' h' => ⟨q' :: qs, rfl, h', h.2⟩⟩
        obtain ⟨k', h1, h2⟩ := zipQ_addr p hp
        exact hn'.1 (e ▸ h2 ▸ List.mem_map_of_mem h1)
      | succ i =>
        obtain ⟨q, za, zb, h1, h2, h3, h4⟩ := ih hn'.2 hk h.2
        refine ⟨q, k0.que q0 :: za, zb, h1, congrArg (k0.que q0 :: ·) h2, List.forall_mem_cons.mpr ⟨fun e => hn'.1 ?_, h3⟩, fun q' h' => ?_⟩
        · rw [show k0.q = k.q from e]
          exact List.mem_map_of_mem (List.mem_of_getElem? hk)
        · obtain ⟨qs', g1, g2⟩ := h4 q' h'
          exact ⟨q0 :: qs', congrArg (k0.que q0 :: ·) g1, h.1, g2⟩
theorem zipQ_noIter : ∀ {ks : List Nf} {qs : List Nq}, ∀ p ∈ zipQ ks qs, NoIter p.2
  | [], _, _, h => nomatch h
  | _ :: _, [], _, h => nomatch h
  | _ :: ks, _ :: qs, p, h => by
    rcases List.mem_cons.mp h with rfl | h
    · exact noIter_list _ _
    · exact zipQ_noIter p h
theorem zipQ_off {ks : List Nf} {qs : List Nq} {a : Addr} (h : ∀ k ∈ ks, k.q ≠ a) : ∀ p ∈ zipQ ks qs, p.1 ≠ a := fun p hp => by
  obtain ⟨k, h1, h2⟩ := zipQ_addr p hp
  rw [h2]; exact h k h1
theorem fixs_noIter {Pm : Params} {c kd : Addr} {nk : Nat} {ks : List Nf} : ∀ p ∈ fixs Pm c kd nk ks, NoIter p.2 := fun p hp => by
  rcases List.mem_cons.mp hp with rfl | hp
  · exact noIter_list _ _
  · obtain ⟨k, _, hk⟩ := List.mem_flatMap.mp hp
    rcases List.mem_cons.mp hk with rfl | hk
    · exact noIter_tup _ _
    rcases List.mem_cons.mp hk with rfl | hk
    · exact noIter_inst _ _
    rcases List.mem_cons.mp hk with rfl | hk
    · exact noIter_dict _ _
    cases hk

end
section
theorem off_sub {a : List (Addr × Obj)} {l l' : List Addr} (h : OwnOff a l') (hs : ∀ x ∈ l, x ∈ l') : OwnOff a l := fun p hp q hq => h p hp q (hs q hq)
theorem add_in {α : Type} {b c pc q p : α} {za zb fx own : List α} (hp : p ∈ b :: q :: (c :: pc :: (za ++ zb ++ (fx ++ own)))) : p ∈ (b :: c :: pc :: ((za ++ q :: zb) ++ fx)) ++ own := by
  simp only [List.mem_append, List.mem_cons] at hp ⊢
  rcases hp with h | h | h | h | (h | h) | h | h <;> simp [h]
theorem add_out {α : Type} {b c pc q p : α} {za zb fx own : List α} (hp : p ∈ b :: c :: pc :: ((za ++ q :: zb) ++ fx)) : p ∈ b :: q :: (c :: pc :: (za ++ zb ++ (fx ++ own))) := by
  simp only [List.mem_append, List.mem_cons] at hp ⊢
  rcases hp with h | h | h | (h | h | h) | h <;> simp [h]
theorem add_own {α : Type} {b c pc q p : α} {za zb fx own : List α} (hp : p ∈ own) : p ∈ b :: q :: (c :: pc :: (za ++ zb ++ (fx ++ own))) := .tail _ (.tail _ (.tail _ (.tail _ (List.mem_append_right _ (List.mem_append_right _ hp)))))
theorem off_add {c pc q : Addr} {oc opc : Obj} {z fx own : List (Addr × Obj)} (h1 : c ≠ q) (h2 : pc ≠ q) (h3 : ∀ p ∈ z, p.1 ≠ q) (h4 : OwnOff fx [q]) (h5 : OwnOff own [q]) : OwnOff ((c, oc) :: (pc, opc) :: (z ++ (fx ++ own))) [q] := by
  intro p hp b hb
  rw [List.mem_singleton.mp hb]
  rcases List.mem_cons.mp hp with rfl | hp
  · exact h1
  rcases List.mem_cons.mp hp with rfl | hp
  · exact h2
  rcases List.mem_append.mp hp with hp | hp
  · exact h3 p hp
  rcases List.mem_append.mp hp with hp | hp
  · exact h4 p hp q (.head _)
  · exact h5 p hp q (.head _)
abbrev AddS := Addr × (Int × Int × Int × Tok × Tok × Tok) × List Nq
noncomputable def addL (c pc : Addr) (oc opc : Obj) (ks : List Nf) (fx : List (Addr × Obj)) (st : AddS) : List (Addr × Obj) :=
  (st.1, tup3 (.int st.2.1.1 st.2.1.2.2.2.1) (.int st.2.1.2.1 st.2.1.2.2.2.2.1) (.int st.2.1.2.2.1 st.2.1.2.2.2.2.2)) :: (c, oc) :: (pc, opc) :: (zipQ ks st.2.2 ++ fx)
/-- what is true ahead of the i-th kind -/
def AddJ (len p0 p1 p2 p3 : Int) (ms : List Int) (count : Int) (ks : List Nf) (i : Nat) (b sz sy : Int) : Prop :=
  PieceOk len ms p0 p1 p2 p3 count b sz sy ∧ b ≤ gi ms (count - 1) + p0 ∧ ∀ j k, j < i → ks[j]? = some k → LeAll ms k.f k.m k.fi count (pkOf p1 p2 p3 k.sy) b
theorem AddJ.step {len p0 p1 p2 p3 count b sz sy b' sz' sy' : Int} {ms : List Int} {ks : List Nf} {i : Nat} {k : Nf} (h : AddJ len p0 p1 p2 p3 ms count ks i b sz sy) (hk : ks[i]? = some k) (hb : b' ≤ b) (hp : PieceOk len ms p0 p1 p2 p3 count b' sz' sy') (hl : LeAll ms k.f k.m k.fi count (pkOf p1 p2 p3 k.sy) b') :
    AddJ len p0 p1 p2 p3 ms count ks (i + 1) b' sz' sy' := by
  refine ⟨hp, Int.le_trans hb h.2.1, fun j k' hj hk' => ?_⟩
  by_cases e : j = i
  · subst e
    rw [hk] at hk'
    cases hk'
    exact hl
  · exact (h.2.2 j k' (by omega) hk').mono hb
theorem AddJ.fin {len p0 p1 p2 p3 count b sz sy : Int} {ms : List Int} {ks : List Nf} (h : AddJ len p0 p1 p2 p3 ms count ks ks.length b sz sy) : ∀ k ∈ ks, LeAll ms k.f k.m k.fi count (pkOf p1 p2 p3 k.sy) b := fun k hk => by
  obtain ⟨j, hj⟩ := List.mem_iff_getElem?.mp hk
  exact h.2.2 j k (by obtain ⟨h1, _⟩ := List.getElem?_eq_some_iff.mp hj; exact h1) hj
section
variable {w : World} {A₀ : Around} {s : Shared} {base h₀ : Heap} {outer : List Env} {L : Addr} {m mg mb : Str → Option Value} {news : List (Addr × Obj)} {loose : List Str} {mean : ExcName → Option Value}
  {dp un : Nat} {gd : Option (List Code)} {cn : Str} {cs : Scope} {a : Addr} {ccd : Value} {cl : List (Str × Addr)}
/-- all turns -/
theorem add_turns {g hp9 : Heap} {L9 : Addr} {m₀ : Str → Option Value} {Q : Flow → Shared → Prop} {x dx c pc pr kd bt : Addr} {len count p0 p1 p2 p3 b sz sb : Int} {ms Ps : List Int} {ks : List Nf} {qs : List Nq} {cvs pvs : List Value} {opc : Obj} {nd np nc nk : Nat} {e1 e2 e3 e4 e5 e6 tc u1 u2 u3 : Tok} {fx : List (Addr × Obj)}
    (B : Below (ktrTop dp un gd cn cs L a ccd cl outer) base (envX cn cs L a ccd cl :: outer) g) (X₀ : (hd.heap_39 w.params).In g) (T : Top hd.view_39 loose mean mg mb g)
    (hk : cs.kind = .function) (hdp : dp < 380) (hun : un < 3800)
    (F : Fr g L9 hp9 m₀) (f1 : m₀ (PySem.Str.ofString "best") = some (.ref bt)) (f2 : m₀ (PySem.Str.ofString "self") = some (.ref x)) (f3 : m₀ (PySem.Str.ofString "count") = some (.int count tc))
    (N : News g L9 hp9 ((bt, tup3 (.int b u1) (.int sz u2) (.int sb u3)) :: (c, listOf cvs.toArray nc) :: (pc, opc) :: (zipQ ks qs ++ fx)))
    (m1 : (x, instObj 82 dx) ∈ fx) (m2 : (dx, waysDict w.params e1 e2 e3 e4 e5 e6 nd len pr c pc kd) ∈ fx) (m4 : (pr, listOf pvs.toArray np) ∈ fx) (m5 : ∀ p ∈ fixs w.params c kd nk ks, p ∈ fx) (hni : ∀ p ∈ fx, NoIter p.2) (hnp : NoIter opc)
    (d2 : ∀ k ∈ ks, k.q ≠ c ∧ k.q ≠ pc) (d4 : ∀ k ∈ ks, OwnOff fx [k.q]) (d5 : (ks.map Nf.q).Nodup) (hb0 : ∀ k ∈ ks, @LT.lt Nat _ k.q bt)
    (hci : IntsAre cvs ms) (hpi : IntsAre pvs Ps) (hms : (ms.length : Int) = count) (hcount : 1 ≤ count ∧ count ≤ 20) (hP : PricesOk Ps len p0 p1 p2 p3) (hks : ∀ k ∈ ks, KOk len k) (hq : QAll ms (count - 1) ks qs)
    (hp : PieceOk len ms p0 p1 p2 p3 count b sz sb) (hle : b ≤ gi ms (count - 1) + p0)
    (done : ∀ bt' b sz sy u1 u2 u3 qs' (u : Str → Option Value) h tk, @LE.le Nat _ bt bt' → QAll ms count ks qs' → PieceOk len ms p0 p1 p2 p3 count b sz sy → b ≤ gi ms (count - 1) + p0 → (∀ k ∈ ks, LeAll ms k.f k.m k.fi count (pkOf p1 p2 p3 k.sy) b) →
      Fr g L9 h (fun y => if y = PySem.Str.ofString "" then u y else if y = PySem.Str.ofString "best" then some (.ref bt') else if [PySem.Str.ofString "symbol", PySem.Str.ofString "nearest", PySem.Str.ofString "ahead", PySem.Str.ofString "cost"].contains y then u y else m₀ y) →
      News g L9 h ((bt', tup3 (.int b u1) (.int sz u2) (.int sy u3)) :: (c, listOf cvs.toArray nc) :: (pc, opc) :: (zipQ ks qs' ++ fx)) → Q .next { s with heap := h, toks := tk })
    (hs : s.heap = hp9) :
    wpAny (model PySem.Challenge.rw_tk0114_01.row.prog w) ((ktrTop dp un gd cn cs L a ccd cl outer).deeper (envOf (PySem.Str.ofString "RunWays.add") (addFor w.params).1.1 L9 65 (addFor w.params).1.2.1)) (pyIter (.ref kd))
      (fun it s₂ => TurnsAt PySem.Challenge.rw_tk0114_01.row.prog w ((ktrTop dp un gd cn cs L a ccd cl outer).deeper (envOf (PySem.Str.ofString "RunWays.add") (addFor w.params).1.1 L9 65 (addFor w.params).1.2.1)) g (envOf (PySem.Str.ofString "RunWays.add") (addFor w.params).1.1 L9 65 (addFor w.params).1.2.1) (addFor w.params).1.2.2.1 (addFor w.params).1.2.2.2 Q (fun _ _ => False) it s₂) (fun _ _ => False) s := by
  subst hs
  have mkd : (kd, listOf (ks.map fun k => Value.ref k.t).toArray nk) ∈ fx := m5 _ (.head _)
  refine list_turns (addL c pc (listOf cvs.toArray nc) opc ks fx) (fun st => [(PySem.Str.ofString "best", Value.ref st.1)]) (fun _ => True) [PySem.Str.ofString "symbol", PySem.Str.ofString "nearest", PySem.Str.ofString "ahead", PySem.Str.ofString "cost"]
    (fun i st => @LE.le Nat _ bt st.1 ∧ AddJ len p0 p1 p2 p3 ms count ks i st.2.1.1 st.2.1.2.1 st.2.1.2.2.1 ∧ QAt ms count i ks st.2.2) (bt, (b, sz, sb, u1, u2, u3), qs)
    rfl (fun _ => .tail _ (.tail _ (.tail _ (List.mem_append_right _ mkd)))) F N trivial (List.forall_mem_cons.mpr ⟨f1, List.forall_mem_nil _⟩) ⟨Nat.le_refl _, ⟨hp, hle, fun _ _ h => nomatch h⟩, hq.start⟩ ?_ ?_
  · intro st i v u h tk own hv hoff _ ⟨i1, i2, i3⟩ F' N'
    rw [List.getElem?_map] at hv
    obtain ⟨k, hki, rfl⟩ := Option.map_eq_some_iff.mp hv
    obtain ⟨q, za, zb, q1, q2, q3, q4⟩ := QAt.turn d5 hki i3
    have hkm : k ∈ ks := List.mem_of_getElem? hki
    obtain ⟨n1, n2, n3⟩ := (hks k hkm).num
    have hfix : ∀ p ∈ k.fix w.params c, p ∈ fx := fun p hp => m5 p (.tail _ (List.mem_flatMap.mpr ⟨k, hkm, hp⟩))
    have hRf : ∀ p ∈ fx, p ∈ (c, listOf cvs.toArray nc) :: (pc, opc) :: (za ++ zb ++ (fx ++ own)) := fun p hp => .tail _ (.tail _ (List.mem_append_right _ (List.mem_append_left _ hp)))
    have hoq : OwnOff own [k.q] := off_sub hoff fun y hy => by
      rw [List.mem_singleton.mp hy]
      exact List.mem_map_of_mem (f := (·.1)) (.tail _ (.tail _ (.tail _ (List.mem_append_left _ (by rw [q2]; exact List.mem_append_right _ (.head _))))) : k.que q ∈ addL c pc (listOf cvs.toArray nc) opc ks fx st)
    have N2 : News g L9 h ((st.1, tup3 (.int st.2.1.1 st.2.1.2.2.2.1) (.int st.2.1.2.1 st.2.1.2.2.2.2.1) (.int st.2.1.2.2.1 st.2.1.2.2.2.2.2)) :: (k.q, listOf q.qv.toArray q.nq) :: ((c, listOf cvs.toArray nc) :: (pc, opc) :: (za ++ zb ++ (fx ++ own)))) := fun p hp => N' p (by
      unfold addL
      rw [q2]
      exact add_in hp)
    refine add_turn (s := s) (Rf := FreePost g L9 (addL c pc (listOf cvs.toArray nc) opc ks fx) (fun st => [(PySem.Str.ofString "best", Value.ref st.1)]) (fun _ => True) (PySem.Str.ofString "") [PySem.Str.ofString "symbol", PySem.Str.ofString "nearest", PySem.Str.ofString "ahead", PySem.Str.ofString "cost"] m₀
      (fun st => @LE.le Nat _ bt st.1 ∧ AddJ len p0 p1 p2 p3 ms count ks (i + 1) st.2.1.1 st.2.1.2.1 st.2.1.2.2.1 ∧ QAt ms count (i + 1) ks st.2.2) own { s with heap := h, toks := tk } Q)
      B X₀ T hk hdp hun F' rfl f2 f3 N2 (hRf _ m1) (hRf _ m2) (.head _) (hRf _ m4) (hRf _ (hfix _ (.head _))) (hRf _ (hfix _ (.tail _ (.head _)))) (hRf _ (hfix _ (.tail _ (.tail _ (.head _)))))
      (off_add (fun e => (d2 k hkm).1 e.symm) (fun e => (d2 k hkm).2 e.symm) q3 (d4 k hkm) hoq) (Nat.ne_of_gt (Nat.lt_of_lt_of_le (hb0 k hkm) i1)) (fun e => d4 k hkm _ (hfix _ (.tail _ (.head _))) _ (.head _) e.symm) (fun e => d4 k hkm _ (hfix _ (.tail _ (.tail _ (.head _)))) _ (.head _) e.symm) (d2 k hkm).1
      hci hpi q1.1 q1.2 hms hcount hP.1 n1 n2 n3 ((hks k hkm).price hP) i2.1 (fun j => (hks k hkm).piece) ?_
    intro h' tk' m' bt' b' sz' sb' u1' u2' u3' qv' nq' F3 N3 g1 g2 g3 g4 g5 g6 g7
    obtain ⟨qs', z1, z2⟩ := q4 ⟨qv', waitP ms (win k.f k.m k.fi count), nq'⟩ ⟨g1, rfl⟩
    have hled : addL c pc (listOf cvs.toArray nc) opc ks fx (bt', (b', sz', sb', u1', u2', u3'), qs') = (bt', tup3 (.int b' u1') (.int sz' u2') (.int sb' u3')) :: (c, listOf cvs.toArray nc) :: (pc, opc) :: ((za ++ k.que ⟨qv', waitP ms (win k.f k.m k.fi count), nq'⟩ :: zb) ++ fx) := by unfold addL; rw [z1]
    refine free_end (bt', (b', sz', sb', u1', u2', u3'), qs') F3 N3 (fun p hp => add_out (hled ▸ hp)) (fun p hp => add_own hp) ?_ trivial (List.forall_mem_cons.mpr ⟨g6, List.forall_mem_nil _⟩) (fun z h1 h2 h3 => ?_) ⟨Nat.le_trans i1 g5, i2.step hki g2 g3 g4, z2⟩
    · intro p hp
      rcases List.mem_cons.mp hp with rfl | hp
      · exact noIter_tup _ _
      rcases List.mem_cons.mp hp with rfl | hp
      · exact noIter_list _ _
      rcases List.mem_cons.mp hp with rfl | hp
      · exact hnp
      rcases List.mem_append.mp hp with hp | hp
      · exact zipQ_noIter p hp
      · exact hni p hp
    · rw [g7 z h1 h2 h3]
      have hb : z ≠ PySem.Str.ofString "best" := h2 _ (.head _)
      show (if z = PySem.Str.ofString "" then u z else if z = PySem.Str.ofString "best" then some (Value.ref st.1) else if [PySem.Str.ofString "symbol", PySem.Str.ofString "nearest", PySem.Str.ofString "ahead", PySem.Str.ofString "cost"].contains z then u z else m₀ z) = m₀ z
      rw [if_neg h1, if_neg hb, h3]
      rfl
  · intro st u h tk _ ⟨i1, i2, i3⟩ F' N'
    rw [List.length_map] at i2 i3
    exact done st.1 _ _ _ _ _ _ st.2.2 u h tk i1 i3.fin i2.1 i2.2.1 i2.fin F' N'
end
theorem allLt_all {d : Addr} {l : List (Addr × Obj)} (h : AllLt d l) : ∀ p ∈ l, @LT.lt Nat _ p.1 d := by
  induction l with
  | nil => intro p hp; cases hp
  | cons x l ih =>
    intro p hp
    rcases List.mem_cons.mp hp with rfl | hp
    · exact h.1
    · exact ih h.2 p hp
theorem zipQ_has {ms : List Int} {n : Int} : ∀ {ks : List Nf} {qs : List Nq} {k : Nf}, QAll ms n ks qs → k ∈ ks → ∃ o, (k.q, o) ∈ zipQ ks qs
  | [], _, _, _, h => nomatch h
  | _ :: _, [], _, h, _ => h.elim
  | k0 :: ks, q0 :: qs, k, h, hk => by
    rcases List.mem_cons.mp hk with rfl | hk
    · exact ⟨_, .head _⟩
    · obtain ⟨o, ho⟩ := zipQ_has h.2 hk
      exact ⟨o, .tail _ ho⟩
theorem add_off {c pc : Addr} {ks : List Nf} {qs : List Nq} {fx : List (Addr × Obj)} (d2 : ∀ k ∈ ks, k.q ≠ c ∧ k.q ≠ pc) (d3 : OwnOff fx [c, pc]) : OwnOff (zipQ ks qs ++ fx) [c, pc] := by
  intro p hp b hb
  rcases List.mem_append.mp hp with hp | hp
  · rcases List.mem_cons.mp hb with rfl | hb
    · exact zipQ_off (fun k hk => (d2 k hk).1) p hp
    · rw [List.mem_singleton.mp hb]
      exact zipQ_off (fun k hk => (d2 k hk).2) p hp
  · exact d3 p hp b hb
theorem add_p0 {len p0 p1 p2 p3 count : Int} {ms Ps : List Int} (h : gi Ps len = p0) : PieceOk len ms p0 p1 p2 p3 count (ms.getD (count - 1).toNat 0 + Ps.getD len.toNat 0) 1 len := .inl ⟨rfl, rfl, by rw [← h]⟩
local macro_rules | `(tactic| k_mem) => `(tactic| assumption)
section
variable {w : World} {A₀ : Around} {s : Shared} {base h₀ : Heap} {outer : List Env} {L : Addr} {m mg mb : Str → Option Value} {news : List (Addr × Obj)} {loose : List Str} {mean : ExcName → Option Value}
  {dp un : Nat} {gd : Option (List Code)} {cn : Str} {cs : Scope} {a : Addr} {ccd : Value} {cl : List (Str × Addr)} {Q E : Value → Shared → Prop}
theorem addg_con {x dx pr c pc kd : Addr} {len count p0 p1 p2 p3 : Int} {ms Ps : List Int} {ks : List Nf} {qs : List Nq} {cvs pvs pcs : List Value} {nd np nc npc nk : Nat} {e1 e2 e3 e4 e5 e6 tk : Tok} {fx : List (Addr × Obj)}
    (B : Below A₀ base outer h₀) (F : Fr h₀ L s.heap m) (X₀ : (hd.heap_39 w.params).In h₀) (N : News h₀ L s.heap news) (T : Top hd.view_39 loose mean mg mb h₀)
    (hk : cs.kind = .function) (hdp : dp < 380) (hun : un < 3800)
    (hS : ∀ p ∈ (c, listOf cvs.toArray nc) :: (pc, listOf pcs.toArray npc) :: (zipQ ks qs ++ fx), p ∈ news)
    (m1 : (x, instObj 82 dx) ∈ fx) (m2 : (dx, waysDict w.params e1 e2 e3 e4 e5 e6 nd len pr c pc kd) ∈ fx) (m4 : (pr, listOf pvs.toArray np) ∈ fx) (m5 : ∀ p ∈ fixs w.params c kd nk ks, p ∈ fx) (hni : ∀ p ∈ fx, NoIter p.2)
    (d1 : @Ne Nat c pc) (d2 : ∀ k ∈ ks, k.q ≠ c ∧ k.q ≠ pc) (d3 : OwnOff fx [c, pc]) (d4 : ∀ k ∈ ks, OwnOff fx [k.q]) (d5 : (ks.map Nf.q).Nodup)
    (hci : IntsAre cvs ms) (hpi : IntsAre pvs Ps) (hms : (ms.length : Int) = count) (hcount : 1 ≤ count ∧ count ≤ 20) (hP : PricesOk Ps len p0 p1 p2 p3) (hpcl : pcs.length ≤ 100) (hlen : 0 ≤ len ∧ len ≤ 15) (hks : ∀ k ∈ ks, KOk len k) (hq : QAll ms (count - 1) ks qs)
    (ret : ∀ t cvs' nc' npc' qs' b sz sy nt' u1 u2 h' tk', (∀ p ∈ news, p.1 < t) → IntsAre cvs' (ms ++ [b]) → QAll ms count ks qs' → PieceOk len ms p0 p1 p2 p3 count b sz sy → b ≤ gi ms (count - 1) + p0 → (∀ k ∈ ks, LeAll ms k.f k.m k.fi count (pkOf p1 p2 p3 k.sy) b) → Fr h₀ L h' m →
      (∀ p ∈ news, (∀ q ∈ c :: pc :: ks.map Nf.q, p.1 ≠ q) → At h₀ L h' p) → (∀ p ∈ (t, tup2 (.int sz u1) (.int sy u2) nt') :: (c, listOf cvs'.toArray nc') :: (pc, listOf (pcs ++ [Value.ref t]).toArray npc') :: (zipQ ks qs' ++ fx), At h₀ L h' p) → Q .none { s with heap := h', toks := tk' }) :
    wpAny (model PySem.Challenge.rw_tk0114_01.row.prog w) (ktrTop dp un gd cn cs L a ccd cl outer) (call (.ref 65) [.ref x, .int count tk]) Q E s := by
  walk_at "FILL"
  k_with "ENTER" => (k_dflt (refine' code_sub ?kPost ?k1 ?k2 ?k3 ?k4 ?k5 ?kA ?kF ?kK ?k6 ?k7 ?k8 ?k9 ?kB ?kS ?kBody ?kRet ?c5 ?c2 ?c3 ?c4; (case kA => exact rfl); (case kF => exact rfl); (case kK => k_asm); (case k1 => k_asm); (case k2 => k_asm); (case k3 => k_asm); (case k4 => k_asm); (case k5 => k_asm); (case k6 => k_is); (case k7 => k_is); (case k8 => ktr_room); (case k9 => first | exact BindsTo.of_eq (rfl : bindArgs _ _ = pure [(_, _)]) | exact BindsTo.of_eq (rfl : bindArgs _ _ = pure [(_, _), (_, _)]) | exact BindsTo.of_eq (rfl : bindArgs _ _ = pure [(_, _), (_, _), (_, _)]) | exact BindsTo.of_eq (rfl : bindArgs _ _ = pure [(_, _), (_, _), (_, _), (_, _)]) | exact BindsTo.of_eq (rfl : bindArgs _ _ = pure [(_, _), (_, _), (_, _), (_, _), (_, _)]) | exact BindsTo.of_eq rfl); (case c5 => decide); (case kB => exact locs rfl); (case c2 => exact rfl); (case c3 => exact rfl); (case c4 => exact rfl)))
  k_with "RetP" => (((try dsimp only [flv]); refine RetP.owed (by k_asm) (by k_asm) ?_))
  k_with "newList" => ((k_here; k_dflt (refine' newList_L ?r3_k1 ?r3_k2 ?_; (case r3_k1 => k_asm); (case r3_k2 => k_asm); k_whole); intro r_l' r_h' r_F' r_N' r_l1; (try k_lt r_l1); (try k_sweep)))
  k_with "call builtin:list.append" => ((k_here; (with_reducible show wpAny _ _ (call (Value.builtin _) [Value.ref _, Value.int _ _]) _ _ _); k_dflt (refine' append_ints ?r4_k1 ?r4_k2 (fun o' => ?r4_k3) ?r4_hi ?r4_hl ?_; (case r4_k1 => k_asm); (case r4_k2 => k_asm); (case r4_k3 => k_upd); (case r4_hi => assumption); (case r4_hl => first | omega | (simp only [List.length_append, List.length_cons, List.length_nil] at *; omega)); k_whole); intro r_h' r_us' r_un' r_hI' r_F' r_N'; (try dsimp only at r_N'); (try k_sweep)))
  k_with "FreePost" => ((dsimp only [FreePost]))
  k_with "NOITER" => ((repeat' (first | exact List.forall_mem_nil _ | (refine List.forall_mem_cons.mpr ⟨?_, ?_⟩) | exact noIter_list _ _ | exact noIter_inst _ _ | exact noIter_dict _ _ | exact noIter_tup _ _ | exact noIter_cell (by assumption))))
  k_with "OWNIN" => ((intro r_p r_hp; k_ownIn))
  k_with "subscriptTail" => ((k_here; (with_reducible show wpAny _ _ (subscriptTail _ _ (Value.ref _) (Value.int _ _)) _ _ _); k_dflt (refine' item_bnd ?r8_N ?r8_hm ?r8_hi ?r8_h0 ?r8_h1 ?r8_h2 ?_; (case r8_N => k_asm); (case r8_hm => k_mem); (case r8_hi => assumption); (case r8_h0 => first | omega | k_extra "low"); (case r8_h1 => first | omega | k_extra "high"); (case r8_h2 => omega)); intro r_t'))
  k_with "ENTERC" => (k_dflt (refine' code_subC ?kPost ?k1 ?k2 ?k3 ?k4 ?k5 ?kA ?kF ?kK ?k6 ?k7 ?k8 ?k9 ?kB ?kD ?kS ?kBody ?kRet ?c2 ?c3 ?c4; (case kA => exact rfl); (case kF => exact rfl); (case kK => k_asm); (case k1 => k_asm); (case k2 => k_asm); (case k3 => k_asm); (case k4 => k_asm); (case k5 => k_asm); (case k6 => k_is); (case k7 => k_is); (case k8 => ktr_room); (case k9 => first | exact BindsTo.of_eq (rfl : bindArgs _ _ = pure [(_, _)]) | exact BindsTo.of_eq (rfl : bindArgs _ _ = pure [(_, _), (_, _)]) | exact BindsTo.of_eq (rfl : bindArgs _ _ = pure [(_, _), (_, _), (_, _)]) | exact BindsTo.of_eq (rfl : bindArgs _ _ = pure [(_, _), (_, _), (_, _), (_, _)]) | exact BindsTo.of_eq (rfl : bindArgs _ _ = pure [(_, _), (_, _), (_, _), (_, _), (_, _)]) | exact BindsTo.of_eq rfl); (case kB => exact rfl); (case kD => decide +kernel); (case c2 => exact rfl); (case c3 => exact rfl); (case c4 => exact rfl)))
  k_with "GROUNDC" => ((intro r_g' r_L' r_h' r_tk' r_cells' r_F' r_N' r_Y' r_l1 r_B' r_X' r_T' r_lN; k_lt r_l1; k_cells r_Y'; (try simp only [List.cons_append, List.nil_append] at r_N'); (try dsimp only)))
  k_with "call ref" => ((k_here; (with_reducible show wpAny _ _ (call (Value.ref 100) [Value.ref _, Value.int _ _]) _ _ _); k_dflt (refine' take_use ?r17_B ?r17_F ?r17_X ?r17_N ?r17_T ?r17_hk ?r17_hd ?r17_hu (fun o' => ?r17_U) ?r17_hi ?r17_hJ ?r17_hb ?r17_h5 ?r17_h6 ?_; (case r17_B => k_asm); (case r17_F => k_asm); (case r17_X => k_asm); (case r17_N => k_asm); (case r17_T => k_asm); (case r17_hk => first | exact rfl | assumption); (case r17_hd => ktr_room); (case r17_hu => ktr_units); (case r17_U => k_upd); (case r17_hi => assumption); (case r17_hJ => assumption); (case r17_hb => omega); (case r17_h5 => omega); (case r17_h6 => omega)); intro r_d' r_t' r_vs' r_n' r_ns' r_h' r_tk' r_hd1' r_hd2' r_hI' r_hJ' r_F' r_N'; (try dsimp only at r_N'); (try k_sweep)))
  k_with "call ref" => ((k_here; (with_reducible show wpAny _ _ (call (Value.ref 107) [Value.ref _]) _ _ _); k_dflt (refine' costs_use ?r18_B ?r18_F ?r18_X ?r18_N ?r18_T ?r18_hk ?r18_hd ?r18_hu (fun o' => ?r18_U) ?r18_hi ?r18_hJ ?r18_hb ?_; (case r18_B => k_asm); (case r18_F => k_asm); (case r18_X => k_asm); (case r18_N => k_asm); (case r18_T => k_asm); (case r18_hk => first | exact rfl | assumption); (case r18_hd => ktr_room); (case r18_hu => ktr_units); (case r18_U => k_upd); (case r18_hi => assumption); (case r18_hJ => assumption); (case r18_hb => omega)); intro r_l' r_us' r_ms' r_k' r_vs' r_n' r_ns' r_h' r_tk' r_l1 r_hI' r_hm8' r_hm20' r_hJ'' r_hJ' r_F' r_N'; (try k_lt r_l1); (try dsimp only at r_N'); (try k_sweep)))
  k_with "call ref" => ((k_here; (with_reducible show wpAny _ _ (call (Value.ref 114) [Value.ref _, Value.ref _]) _ _ _); k_dflt (refine' latest_con ?r19_B ?r19_F ?r19_X ?r19_N ?r19_T ?r19_hk ?r19_hd ?r19_hu ?r19_hc ?r19_ht ?r19_ci ?r19_ti ?r19_b1 ?r19_b2 ?_; (case r19_B => k_asm); (case r19_F => k_asm); (case r19_X => k_asm); (case r19_N => k_asm); (case r19_T => k_asm); (case r19_hk => first | exact rfl | assumption); (case r19_hd => ktr_room); (case r19_hu => ktr_units); (case r19_hc => k_mem); (case r19_ht => k_mem); (case r19_ci => assumption); (case r19_ti => assumption); (case r19_b1 => k_extra "there"); (case r19_b2 => omega)); intro r_v' r_h' r_tk' r_hv' r_F' r_N'; (try k_sweep); k_extra "latest"))
  k_with "call ref" => ((k_here; (with_reducible show wpAny _ _ (call (Value.ref 121) [Value.ref _, Value.ref _]) _ _ _); k_dflt (refine' waiting_con ?r20_B ?r20_F ?r20_X ?r20_N ?r20_T ?r20_hk ?r20_hd ?r20_hu ?r20_hc ?r20_ht ?r20_ci ?r20_ti ?r20_b1 ?r20_b2 ?r20_b3 ?_; (case r20_B => k_asm); (case r20_F => k_asm); (case r20_X => k_asm); (case r20_N => k_asm); (case r20_T => k_asm); (case r20_hk => first | exact rfl | assumption); (case r20_hd => ktr_room); (case r20_hu => ktr_units); (case r20_hc => k_mem); (case r20_ht => k_mem); (case r20_ci => assumption); (case r20_ti => assumption); (case r20_b1 => k_extra "there"); (case r20_b2 => omega); (case r20_b3 => first | omega | k_extra "therelen")); intro r_f' r_fvs' r_nf' r_h' r_tk' r_l1 r_hI' r_F' r_N'; (try simp only [List.forall_mem_cons] at r_l1); (try k_sweep); (try k_extra "waited")))
  k_with "call ref" => ((k_here; (with_reducible show wpAny _ _ (call (Value.ref 37) [Value.ref _, Value.int _ _]) _ _ _); (try k_extra "ahead"); k_dflt (refine' at_use ?r21_B ?r21_F ?r21_X ?r21_N ?r21_T ?r21_hk ?r21_hd ?r21_hu ?r21_hx ?r21_hdx ?r21_hc (fun o' => ?r21_U) ?r21_n1 ?r21_n2 ?r21_n3 ?r21_qi ?r21_ci ?r21_b0 ?r21_b1 ?r21_b2 ?r21_b3 ?r21_b4 ?r21_b5 ?_ ?_; (case r21_B => k_asm); (case r21_F => k_asm); (case r21_X => k_asm); (case r21_N => k_asm); (case r21_T => k_asm); (case r21_hk => first | exact rfl | assumption); (case r21_hd => ktr_room); (case r21_hu => ktr_units); (case r21_hx => k_mem); (case r21_hdx => k_mem); (case r21_hc => k_mem); (case r21_U => k_upd); (case r21_n1 => omega); (case r21_n2 => omega); (case r21_n3 => omega); (case r21_qi => assumption); (case r21_ci => assumption); (case r21_b0 => omega); (case r21_b1 => omega); (case r21_b2 => first | omega | k_extra "fresh"); (case r21_b3 => first | assumption | k_extra "queue"); (case r21_b4 => first | omega | k_extra "qlen"); (case r21_b5 => omega)); k_extra "at"))
  k_with "call ref" => ((k_here; (with_reducible show wpAny _ _ (call (Value.ref 40) [Value.int _ _, Value.int _ _, Value.ref _, Value.int _ _]) _ _ _); k_dflt (refine near_new4 (by k_asm) (by k_asm) (by k_asm) (by k_asm) (by k_asm) (by first | exact rfl | assumption) (by ktr_room) (by first | ktr_units | (simp only [units_under_make]; ktr_units)) ?_); intro r_x' r_d' r_q' r_k1' r_k2' r_k3' r_k4' r_k5' r_t1' r_t2' r_t3' r_nd' r_nq' r_h' r_tk' r_l1 r_l2 r_l3 r_F' r_N'; (try k_lt r_l1); (try k_sweep)))
  k_with "call ref" => ((k_here; (with_reducible show wpAny _ _ (call (Value.ref 40) [Value.int _ _, Value.int _ _, Value.ref _]) _ _ _); k_dflt (refine near_new3 (by k_asm) (by k_asm) (by k_asm) (by k_asm) (by k_asm) (by first | exact rfl | assumption) (by ktr_room) (by first | ktr_units | (simp only [units_under_make]; ktr_units)) ?_); intro r_x' r_d' r_q' r_k1' r_k2' r_k3' r_k4' r_k5' r_t1' r_t2' r_t3' r_nd' r_nq' r_h' r_tk' r_l1 r_l2 r_l3 r_F' r_N'; (try k_lt r_l1); (try k_sweep)))
  k_with "exec For Tuple Attribute cons nil" => ((k_here; (rename Fr _ _ _ _ => r_lF'); (with_unfolding_all refine' For_turns r_lF' ?_; k_whole)))
  k_with "newTuple" => ((k_here; k_dflt (refine' newTup_L ?r42_k1 ?r42_k2 ?_; (case r42_k1 => k_asm); (case r42_k2 => k_asm); k_whole); intro r_l' r_h' r_F' r_N' r_l1; (try k_lt r_l1); (try k_sweep)))
  k_with "call builtin:list.append" => ((k_here; (with_reducible show wpAny _ _ (call (Value.builtin _) [Value.ref _, Value.ref _]) _ _ _); k_dflt (refine' append_any ?r43_k1 ?r43_k2 (fun o' => ?r43_k3) ?r43_hl ?_; (case r43_k1 => k_asm); (case r43_k2 => k_asm); (case r43_k3 => k_upd); (case r43_hl => omega); k_whole); intro r_h' r_un' r_F' r_N'; (try dsimp only at r_N'); (try k_sweep)))
  k_with "pyIter ref" => ((k_here; (with_reducible show wpAny _ _ (pyIter (Value.ref _)) (fun it s₂ => TurnsAt _ _ _ _ _ _ _ _ _ it s₂) _ _); k_extra "turns"))
  refine wpAny_call ?_
  walk_at "ENTER"
  case kS => exact hS
  case kPost =>
    exact fun L' v sub' => ∃ (t : Addr) (cvs' : List Value) (nc' npc' : Nat) (qs' : List Nq) (b sz sy : Int) (nt' : Nat) (u1 u2 : Tok), v = .none ∧ L' < t ∧
      sub' = (t, tup2 (.int sz u1) (.int sy u2) nt') :: (c, listOf cvs'.toArray nc') :: (pc, listOf (pcs ++ [Value.ref t]).toArray npc') :: (zipQ ks qs' ++ fx) ∧
      IntsAre cvs' (ms ++ [b]) ∧ QAll ms count ks qs' ∧ PieceOk len ms p0 p1 p2 p3 count b sz sy ∧ b ≤ gi ms (count - 1) + p0 ∧ (∀ k ∈ ks, LeAll ms k.f k.m k.fi count (pkOf p1 p2 p3 k.sy) b)
  case kRet =>
    rintro L' r sub' h' tk' hlt F' hs hn hne ⟨t, cvs', nc', npc', qs', b, sz, sy, nt', u1, u2, rfl, hL, rfl, g1, g2, g3, g4, g5⟩
    refine ret t cvs' nc' npc' qs' b sz sy nt' u1 u2 h' tk' (fun p hp => Nat.lt_trans (hlt p hp) hL) g1 g2 g3 g4 g5 F' ?_ hs
    refine atOfL N (sub0 := fx) (fun p hp => hS p (.tail _ (.tail _ (List.mem_append_right _ hp)))) (fun p hp => hs p (.tail _ (.tail _ (.tail _ (List.mem_append_right _ hp))))) (fun p hp => ?_) hn
    rcases List.mem_cons.mp hp with rfl | hp
    · exact .inr (.head _)
    rcases List.mem_cons.mp hp with rfl | hp
    · exact .inr (.tail _ (.head _))
    rcases List.mem_append.mp hp with hp | hp
    · obtain ⟨k, k1, k2⟩ := zipQ_addr p hp
      exact .inr (.tail _ (.tail _ (by rw [k2]; exact List.mem_map_of_mem k1)))
    · exact .inl hp
  case kBody =>
    clear ret B F X₀ N T hS
    intro g' L' h' tk' F' N' B' X' T' _
    have M1 : (x, instObj 82 dx) ∈ zipQ ks qs ++ fx := List.mem_append_right _ m1
    have M2 : (dx, waysDict w.params e1 e2 e3 e4 e5 e6 nd len pr c pc kd) ∈ zipQ ks qs ++ fx := List.mem_append_right _ m2
    have M4 : (pr, listOf pvs.toArray np) ∈ zipQ ks qs ++ fx := List.mem_append_right _ m4
    have M5 : ∀ k ∈ ks, ∃ o, (k.q, o) ∈ zipQ ks qs ++ fx := fun k hk' => by
      obtain ⟨o, ho⟩ := zipQ_has hq hk'
      exact ⟨o, List.mem_append_left _ ho⟩
    generalize hZ : zipQ ks qs ++ fx = Z at N' M1 M2 M4 M5
    have hpl := hP.2.1
    have hPs := hP.1
    unfold waysDict at M2
    try dsimp only
    show wpAny _ _ _ _ _ _
    k_fold
    have he0 := add_eq0 (ms := ms) (q := count - 1) hpl
    k_with "turns" => (
      (subst hZ); (rename Fr _ _ _ _ => lF'); (rename News _ _ _ _ => lN');
      (rename _ ∧ _ ∧ _ ∧ AllLt _ _ => hAll);
      (k_dflt (refine add_turns (ms := ms) (count := count) (p0 := p0) (p1 := p1) (p2 := p2) (p3 := p3) (len := len) (nk := nk) (by k_asm) (by k_asm) (by k_asm) (by first | exact rfl | assumption) (by ktr_room) (by ktr_units) lF' rfl rfl rfl lN' m1 m2 m4 m5 hni (noIter_list _ _) d2 d4 d5 (fun k hk' => by obtain ⟨o, ho⟩ := M5 k hk'; exact allLt_all hAll.2.2.2 _ ho) hci hpi hms hcount hP hks hq (add_p0 hpl) (Int.le_of_eq he0) ?_ rfl));
      clear lF' lN';
      (intro bt b sz sy u1 u2 u3 qs' u h tk hle g2 g3 g4 g5 kFr kNews);
      (have D3 : OwnOff (zipQ ks qs' ++ fx) [c, pc] := add_off d2 d3);
      (have M1 : (x, instObj 82 dx) ∈ zipQ ks qs' ++ fx := List.mem_append_right _ m1);
      (have M2 : (dx, waysDict w.params e1 e2 e3 e4 e5 e6 nd len pr c pc kd) ∈ zipQ ks qs' ++ fx := List.mem_append_right _ m2);
      (generalize hZ' : zipQ ks qs' ++ fx = Z' at kNews M1 M2 D3);
      (unfold waysDict at M2);
      (try (show wpAny _ _ _ _ _ _));
      (try k_fold))
    k_steps
    all_goals (
      (subst hZ')
      exact ⟨⟨(_, _) :: (c, _) :: (pc, _) :: (zipQ ks _ ++ fx), List.forall_mem_cons.mpr ⟨.head _, List.forall_mem_cons.mpr ⟨.tail _ (.tail _ (.head _)), List.forall_mem_cons.mpr ⟨.tail _ (.tail _ (.tail _ (.head _))), fun p hp => .tail _ (.tail _ (.tail _ (.tail _ hp)))⟩⟩⟩, _, _, _, _, _, _, _, _, _, _, _, rfl, ltN (by omega), rfl, by assumption, g2, g3, g4, g5⟩⟩)
end

end
section
theorem tup2_noIter (v1 v2 : Value) (n : Nat) : NoIter (tup2 v1 v2 n) := noIter_tup _ _
theorem TupsAre.sub {tl : List (Addr × Obj)} {vs : List Value} {R : List (Int × Int)} (h : TupsAre tl vs R) : ∃ T, TupsAre T vs R ∧ ∀ p ∈ T, p ∈ tl ∧ NoIter p.2 := by
  classical
  refine ⟨tl.filter fun p => decide (NoIter p.2), ⟨h.1, fun i p hp => ?_⟩, fun p hp => ⟨(List.mem_filter.mp hp).1, of_decide_eq_true (List.mem_filter.mp hp).2⟩⟩
  obtain ⟨a, n, t, u, h1, h2⟩ := h.2 i p hp
  exact ⟨a, n, t, u, h1, List.mem_filter.mpr ⟨h2, decide_eq_true (tup2_noIter _ _ _)⟩⟩
/-- what _law_told_right has left ahead of the i-th piece -/
def TrInv (p0 p1 p2 p3 count due : Int) (R : List (Int × Int)) (i : Nat) (mv sv : Int) : Prop := mv = count - ((R.take i).map szOf).sum ∧ sv = due - ((R.take i).map (prOf p0 p1 p2 p3)).sum
theorem tr_take {R : List (Int × Int)} {i : Nat} {p : Int × Int} (h : R[i]? = some p) (f : Int × Int → Int) : ((R.take (i + 1)).map f).sum = ((R.take i).map f).sum + f p := by
  rw [List.take_add_one, h, List.map_append, List.sum_append]
  simp
theorem tr_step {p0 p1 p2 p3 count due mv sv mv' sv' : Int} {R : List (Int × Int)} {i : Nat} {p : Int × Int} (h : TrInv p0 p1 p2 p3 count due R i mv sv) (hp : R[i]? = some p) (h1 : mv' = mv - szOf p) (h2 : sv' = sv - prOf p0 p1 p2 p3 p) : TrInv p0 p1 p2 p3 count due R (i + 1) mv' sv' := by
  obtain ⟨rfl, rfl⟩ := h
  subst h1 h2
  unfold TrInv
  rw [tr_take hp, tr_take hp]
  omega
section
variable {prog : Program} {w : World} {A : Around} {E : Value → Shared → Prop} {Q : Flow → Shared → Prop} {s : Shared} {env : Env} {h₀ : Heap} {elts : List PySem.Expr} {k : Nat} {pos : Pos} {body : List Stmt}
theorem tr_loop {l pr : Addr} {vs pvs : List Value} {nl np : Nat} {T : List (Addr × Obj)} {R : List (Int × Int)} {len p0 p1 p2 p3 count due : Int} {ms : List Int} {tm ts : Tok} {LL : Addr} {hp9 : Heap} {m₀ : Str → Option Value}
    (F9 : Fr h₀ LL hp9 m₀) (N9 : News h₀ LL hp9 ((l, listOf vs.toArray nl) :: (pr, listOf pvs.toArray np) :: T)) (hLL : env.locals = LL) (hhp : s.heap = hp9) (hh : A.handled = none)
    (hk1 : m₀ (PySem.Str.ofString "many") = some (.int count tm)) (hk2 : m₀ (PySem.Str.ofString "spend") = some (.int due ts))
    (hT : TupsAre T vs R) (hN : ∀ p ∈ T, NoIter p.2) (hl : 0 ≤ len ∧ len ≤ 15) (h0 : gi ms 0 = 0) (hR : Told len p0 p1 p2 p3 ms count R) (hd : gi ms count = due)
    (turn : ∀ i sy r a n t1 t2 t3 Tp mv tm sv ts (u : Str → Option Value) h tk own, R[i]? = some (sy, r) → ItemOk len i (sy, r) → IsTup h Tp #[.int (i : Nat) t1, .ref a] → OwnOff own (l :: pr :: T.map (·.1)) → TrInv p0 p1 p2 p3 count due R i mv sv →
      Fr h₀ env.locals h (fun y => if y = PySem.Str.ofString "" then u y else if y = PySem.Str.ofString "many" then some (.int mv tm) else if y = PySem.Str.ofString "spend" then some (.int sv ts) else if [PySem.Str.ofString "at", PySem.Str.ofString "symbol", PySem.Str.ofString "rest"].contains y then u y else m₀ y) →
      News h₀ env.locals h ((a, tup2 (.int sy t2) (.int r t3) n) :: (l, listOf vs.toArray nl) :: (pr, listOf pvs.toArray np) :: (T ++ own)) →
      wpAny (model prog w) A (assign (.Tuple elts k pos) env (.ref Tp)) (fun _ s₁ => wpAny (model prog w) A (execs body env) (FreePost h₀ env.locals (fun _ : Int × Int × Tok × Tok => (l, listOf vs.toArray nl) :: (pr, listOf pvs.toArray np) :: T) (fun st => [(PySem.Str.ofString "many", Value.int st.1 st.2.2.1), (PySem.Str.ofString "spend", Value.int st.2.1 st.2.2.2)]) (fun _ => True) (PySem.Str.ofString "") [PySem.Str.ofString "at", PySem.Str.ofString "symbol", PySem.Str.ofString "rest"] m₀
        (fun st => TrInv p0 p1 p2 p3 count due R (i + 1) st.1 st.2.1) own { s with heap := h, toks := tk } Q) E s₁) E { s with heap := h, toks := tk })
    (done : ∀ tm ts (u : Str → Option Value) h tk, Fr h₀ env.locals h (fun y => if y = PySem.Str.ofString "" then u y else if y = PySem.Str.ofString "many" then some (.int 0 tm) else if y = PySem.Str.ofString "spend" then some (.int 0 ts) else if [PySem.Str.ofString "at", PySem.Str.ofString "symbol", PySem.Str.ofString "rest"].contains y then u y else m₀ y) →
      News h₀ env.locals h ((l, listOf vs.toArray nl) :: (pr, listOf pvs.toArray np) :: T) → Q .next { s with heap := h, toks := tk }) :
    wpAny (model prog w) A (call (.type "enumerate") [.ref l]) (fun xv s₁ => wpAny (model prog w) A (pyIter xv) (fun it s₂ => TurnsAt prog w A h₀ env (.Tuple elts k pos) body Q E it s₂) E s₁) E s := by
  subst hLL
  subst hhp
  obtain ⟨g1, g2, g3, _, _⟩ := told_ok hl h0 hR
  refine enum_turns (fun _ : Int × Int × Tok × Tok => (l, listOf vs.toArray nl) :: (pr, listOf pvs.toArray np) :: T) (fun st => [(PySem.Str.ofString "many", Value.int st.1 st.2.2.1), (PySem.Str.ofString "spend", Value.int st.2.1 st.2.2.2)]) (fun _ => True) [PySem.Str.ofString "at", PySem.Str.ofString "symbol", PySem.Str.ofString "rest"]
    (fun i st => TrInv p0 p1 p2 p3 count due R i st.1 st.2.1) (count, due, tm, ts) hh (fun _ => .head _) F9 N9 trivial (List.forall_mem_cons.mpr ⟨hk1, List.forall_mem_cons.mpr ⟨hk2, List.forall_mem_nil _⟩⟩) ?_ ?_ ?_
  · exact ⟨by simp, by simp⟩
  · rintro ⟨mv, sv, tm, ts⟩ i v t Tp u h tk own hv hTp hoff _ hI F' N'
    have hi : i < R.length := by
      rcases Nat.lt_or_ge i R.length with h | h
      · exact h
      · rw [List.getElem?_eq_none (by rw [hT.1]; exact h)] at hv; cases hv
    obtain ⟨a, n, t2, t3, h2, h3⟩ := hT.2 i R[i] (List.getElem?_eq_getElem hi)
    rw [hv] at h2
    cases h2
    refine turn i R[i].1 R[i].2 a n t t2 t3 Tp mv tm sv ts u h tk own (List.getElem?_eq_getElem hi) (g1 i _ (List.getElem?_eq_getElem hi)) hTp hoff hI F' ?_
    exact List.forall_mem_cons.mpr ⟨N' _ (List.mem_append_left _ (.tail _ (.tail _ h3))), N'⟩
  · rintro ⟨mv, sv, tm, ts⟩ u h tk _ ⟨h1, h2⟩ F' N'
    rw [hT.1, List.take_length] at h1 h2
    have e1 : mv = 0 := by dsimp only at h1; omega
    have e2 : sv = 0 := by dsimp only at h2; omega
    subst e1 e2
    exact done tm ts u h tk F' N'
end
theorem item_not {len sy r : Int} {i : Nat} (h : ItemOk len i (sy, r)) (h0 : ¬ (sy = len ∧ r = 0)) (h1 : ¬ (sy = 16 ∧ 0 ≤ r ∧ r < 4 ∧ 0 < len + (i : Int))) (h2 : ¬ (sy = 17 ∧ 0 ≤ r ∧ r < 8 ∧ len = 0)) (h3 : ¬ (sy = 18 ∧ 0 ≤ r ∧ r < 128 ∧ len = 0)) : False := h.elim h0 fun h => h.elim h1 fun h => h.elim h2 h3
theorem istrue_cut {M : Model} {A : Around} {env : Env} {s : Shared} {e : PySem.Expr} {X : Sem Value} {Q : Bool → Shared → Prop} {E : Value → Shared → Prop} (C : Prop)
    (h1 : wpAny M A (PySem.isTrue e env X) (fun b s' => Owed ((if b = true then C else ¬ C) ∧ ∃ tk, s' = { s with toks := tk })) E s) (h2 : ∀ tk, C → Q true { s with toks := tk }) (h3 : ∀ tk, ¬ C → Q false { s with toks := tk }) : wpAny M A (PySem.isTrue e env X) Q E s :=
  wpAny_mono h1 (fun b s' h => by
    obtain ⟨hp, tk, rfl⟩ := h.out
    cases b with
    | true => exact h2 tk hp
    | false => exact h3 tk hp) fun _ _ x => x
theorem cut_yes {C : Prop} {s : Shared} {h : Heap} {tk : Nat} (c : C) : Owed ((if true = true then C else ¬ C) ∧ ∃ tk', ({ s with heap := h, toks := tk } : Shared) = { s with heap := h, toks := tk' }) := ⟨c, _, rfl⟩
theorem cut_no {C : Prop} {s : Shared} {h : Heap} {tk : Nat} (c : ¬ C) : Owed ((if false = true then C else ¬ C) ∧ ∃ tk', ({ s with heap := h, toks := tk } : Shared) = { s with heap := h, toks := tk' }) := ⟨c, _, rfl⟩
theorem sz_len {len r : Int} (h : 0 ≤ len ∧ len ≤ 15) (e : r = 0) {mv : Int} : mv - 1 = mv - szOf (len, r) := by
  unfold szOf; rw [if_neg (by dsimp only; omega), if_neg (by dsimp only; omega)]
theorem pr_len {len r p0 p1 p2 p3 : Int} (h : 0 ≤ len ∧ len ≤ 15) {sv : Int} : sv - [p0, p1, p2, p3].getD (Int.toNat 0) 0 = sv - prOf p0 p1 p2 p3 (len, r) := by
  unfold prOf; rw [if_neg (by dsimp only; omega), if_neg (by dsimp only; omega), if_neg (by dsimp only; omega)]; rfl
theorem sz_16 {r mv : Int} : mv - 3 - r = mv - szOf (16, r) := by simp [szOf]; omega
theorem sz_17 {r mv : Int} : mv - 3 - r = mv - szOf (17, r) := by simp [szOf]; omega
theorem sz_18 {r mv : Int} : mv - 11 - r = mv - szOf (18, r) := by simp [szOf]; omega
theorem pr_16 {r p0 p1 p2 p3 sv : Int} : sv - [p0, p1, p2, p3].getD (Int.toNat 1) 0 = sv - prOf p0 p1 p2 p3 (16, r) := by simp [prOf]
theorem pr_17 {r p0 p1 p2 p3 sv : Int} : sv - [p0, p1, p2, p3].getD (Int.toNat 2) 0 = sv - prOf p0 p1 p2 p3 (17, r) := by simp [prOf]
theorem pr_18 {r p0 p1 p2 p3 sv : Int} : sv - [p0, p1, p2, p3].getD (Int.toNat 3) 0 = sv - prOf p0 p1 p2 p3 (18, r) := by simp [prOf]
section
variable {w : World} {A₀ : Around} {s : Shared} {base h₀ : Heap} {outer : List Env} {L : Addr} {m mg mb : Str → Option Value} {news : List (Addr × Obj)} {loose : List Str} {mean : ExcName → Option Value}
  {dp un : Nat} {gd : Option (List Code)} {cn : Str} {cs : Scope} {a : Addr} {ccd : Value} {cl : List (Str × Addr)} {Q E : Value → Shared → Prop}
theorem toldright_con {l pr : Addr} {vs pvs : List Value} {nl np : Nat} {tl : List (Addr × Obj)} {R : List (Int × Int)} {len p0 p1 p2 p3 count due : Int} {ms : List Int} {tk1 tk2 tk3 : Tok}
    (B : Below A₀ base outer h₀) (F : Fr h₀ L s.heap m) (X₀ : (hd.heap_39 w.params).In h₀) (N : News h₀ L s.heap news) (T : Top hd.view_39 loose mean mg mb h₀)
    (hk : cs.kind = .function) (hdp : dp < 380) (hun : un < 3800)
    (hS0 : ∀ p ∈ (l, listOf vs.toArray nl) :: (pr, listOf pvs.toArray np) :: tl, p ∈ news)
    (hT0 : TupsAre tl vs R) (hpi : IntsAre pvs [p0, p1, p2, p3]) (hl : 0 ≤ len ∧ len ≤ 15) (h0 : gi ms 0 = 0) (hR : Told len p0 p1 p2 p3 ms count R) (hd' : gi ms count = due)
    (ret : ∀ h' tk', Fr h₀ L h' m → News h₀ L h' news → Q (.bool true) { s with heap := h', toks := tk' }) :
    wpAny (model PySem.Challenge.rw_tk0114_01.row.prog w) (ktrTop dp un gd cn cs L a ccd cl outer) (call (.ref 140) [.ref l, .int len tk1, .ref pr, .int count tk2, .int due tk3]) Q E s := by
  obtain ⟨TT, hT, hTn⟩ := hT0.sub
  have hS : ∀ p ∈ (l, listOf vs.toArray nl) :: (pr, listOf pvs.toArray np) :: TT, p ∈ news := List.forall_mem_cons.mpr ⟨hS0 _ (.head _), List.forall_mem_cons.mpr ⟨hS0 _ (.tail _ (.head _)), fun p hp => hS0 _ (.tail _ (.tail _ (hTn p hp).1))⟩⟩
  walk_at "FILL"
  k_with "ENTER" => (k_dflt (refine' code_sub ?kPost ?k1 ?k2 ?k3 ?k4 ?k5 ?kA ?kF ?kK ?k6 ?k7 ?k8 ?k9 ?kB ?kS ?kBody ?kRet ?c5 ?c2 ?c3 ?c4; (case kA => exact rfl); (case kF => exact rfl); (case kK => k_asm); (case k1 => k_asm); (case k2 => k_asm); (case k3 => k_asm); (case k4 => k_asm); (case k5 => k_asm); (case k6 => k_is); (case k7 => k_is); (case k8 => ktr_room); (case k9 => first | exact BindsTo.of_eq (rfl : bindArgs _ _ = pure [(_, _)]) | exact BindsTo.of_eq (rfl : bindArgs _ _ = pure [(_, _), (_, _)]) | exact BindsTo.of_eq (rfl : bindArgs _ _ = pure [(_, _), (_, _), (_, _)]) | exact BindsTo.of_eq (rfl : bindArgs _ _ = pure [(_, _), (_, _), (_, _), (_, _)]) | exact BindsTo.of_eq (rfl : bindArgs _ _ = pure [(_, _), (_, _), (_, _), (_, _), (_, _)]) | exact BindsTo.of_eq rfl); (case c5 => decide); (case kB => exact locs rfl); (case c2 => exact rfl); (case c3 => exact rfl); (case c4 => exact rfl)))
  k_with "RetP" => (((try dsimp only [flv]); refine RetP.owed (by k_asm) (by k_asm) ?_))
  k_with "newList" => ((k_here; k_dflt (refine' newList_L ?r3_k1 ?r3_k2 ?_; (case r3_k1 => k_asm); (case r3_k2 => k_asm); k_whole); intro r_l' r_h' r_F' r_N' r_l1; (try k_lt r_l1); (try k_sweep)))
  k_with "call builtin:list.append" => ((k_here; (with_reducible show wpAny _ _ (call (Value.builtin _) [Value.ref _, Value.int _ _]) _ _ _); k_dflt (refine' append_ints ?r4_k1 ?r4_k2 (fun o' => ?r4_k3) ?r4_hi ?r4_hl ?_; (case r4_k1 => k_asm); (case r4_k2 => k_asm); (case r4_k3 => k_upd); (case r4_hi => assumption); (case r4_hl => first | omega | (simp only [List.length_append, List.length_cons, List.length_nil] at *; omega)); k_whole); intro r_h' r_us' r_un' r_hI' r_F' r_N'; (try dsimp only at r_N'); (try k_sweep)))
  k_with "FreePost" => ((dsimp only [FreePost]))
  k_with "NOITER" => ((repeat' (first | exact List.forall_mem_nil _ | (refine List.forall_mem_cons.mpr ⟨?_, ?_⟩) | exact noIter_list _ _ | exact noIter_inst _ _ | exact noIter_dict _ _ | exact noIter_tup _ _ | exact noIter_cell (by assumption))))
  k_with "OWNIN" => ((intro r_p r_hp; k_ownIn))
  k_with "subscriptTail" => ((k_here; (with_reducible show wpAny _ _ (subscriptTail _ _ (Value.ref _) (Value.int _ _)) _ _ _); k_dflt (refine' item_bnd ?r8_N ?r8_hm ?r8_hi ?r8_h0 ?r8_h1 ?r8_h2 ?_; (case r8_N => k_asm); (case r8_hm => k_mem); (case r8_hi => assumption); (case r8_h0 => first | omega | k_extra "low"); (case r8_h1 => first | omega | k_extra "high"); (case r8_h2 => omega)); intro r_t'))
  k_with "ENTERC" => (k_dflt (refine' code_subC ?kPost ?k1 ?k2 ?k3 ?k4 ?k5 ?kA ?kF ?kK ?k6 ?k7 ?k8 ?k9 ?kB ?kD ?kS ?kBody ?kRet ?c2 ?c3 ?c4; (case kA => exact rfl); (case kF => exact rfl); (case kK => k_asm); (case k1 => k_asm); (case k2 => k_asm); (case k3 => k_asm); (case k4 => k_asm); (case k5 => k_asm); (case k6 => k_is); (case k7 => k_is); (case k8 => ktr_room); (case k9 => first | exact BindsTo.of_eq (rfl : bindArgs _ _ = pure [(_, _)]) | exact BindsTo.of_eq (rfl : bindArgs _ _ = pure [(_, _), (_, _)]) | exact BindsTo.of_eq (rfl : bindArgs _ _ = pure [(_, _), (_, _), (_, _)]) | exact BindsTo.of_eq (rfl : bindArgs _ _ = pure [(_, _), (_, _), (_, _), (_, _)]) | exact BindsTo.of_eq (rfl : bindArgs _ _ = pure [(_, _), (_, _), (_, _), (_, _), (_, _)]) | exact BindsTo.of_eq rfl); (case kB => exact rfl); (case kD => decide +kernel); (case c2 => exact rfl); (case c3 => exact rfl); (case c4 => exact rfl)))
  k_with "GROUNDC" => ((intro r_g' r_L' r_h' r_tk' r_cells' r_F' r_N' r_Y' r_l1 r_B' r_X' r_T' r_lN; k_lt r_l1; k_cells r_Y'; (try simp only [List.cons_append, List.nil_append] at r_N'); (try dsimp only)))
  k_with "call ref" => ((k_here; (with_reducible show wpAny _ _ (call (Value.ref 100) [Value.ref _, Value.int _ _]) _ _ _); k_dflt (refine' take_use ?r17_B ?r17_F ?r17_X ?r17_N ?r17_T ?r17_hk ?r17_hd ?r17_hu (fun o' => ?r17_U) ?r17_hi ?r17_hJ ?r17_hb ?r17_h5 ?r17_h6 ?_; (case r17_B => k_asm); (case r17_F => k_asm); (case r17_X => k_asm); (case r17_N => k_asm); (case r17_T => k_asm); (case r17_hk => first | exact rfl | assumption); (case r17_hd => ktr_room); (case r17_hu => ktr_units); (case r17_U => k_upd); (case r17_hi => assumption); (case r17_hJ => assumption); (case r17_hb => omega); (case r17_h5 => omega); (case r17_h6 => omega)); intro r_d' r_t' r_vs' r_n' r_ns' r_h' r_tk' r_hd1' r_hd2' r_hI' r_hJ' r_F' r_N'; (try dsimp only at r_N'); (try k_sweep)))
  k_with "call ref" => ((k_here; (with_reducible show wpAny _ _ (call (Value.ref 107) [Value.ref _]) _ _ _); k_dflt (refine' costs_use ?r18_B ?r18_F ?r18_X ?r18_N ?r18_T ?r18_hk ?r18_hd ?r18_hu (fun o' => ?r18_U) ?r18_hi ?r18_hJ ?r18_hb ?_; (case r18_B => k_asm); (case r18_F => k_asm); (case r18_X => k_asm); (case r18_N => k_asm); (case r18_T => k_asm); (case r18_hk => first | exact rfl | assumption); (case r18_hd => ktr_room); (case r18_hu => ktr_units); (case r18_U => k_upd); (case r18_hi => assumption); (case r18_hJ => assumption); (case r18_hb => omega)); intro r_l' r_us' r_ms' r_k' r_vs' r_n' r_ns' r_h' r_tk' r_l1 r_hI' r_hm8' r_hm20' r_hJ'' r_hJ' r_F' r_N'; (try k_lt r_l1); (try dsimp only at r_N'); (try k_sweep)))
  k_with "call ref" => ((k_here; (with_reducible show wpAny _ _ (call (Value.ref 114) [Value.ref _, Value.ref _]) _ _ _); k_dflt (refine' latest_con ?r19_B ?r19_F ?r19_X ?r19_N ?r19_T ?r19_hk ?r19_hd ?r19_hu ?r19_hc ?r19_ht ?r19_ci ?r19_ti ?r19_b1 ?r19_b2 ?_; (case r19_B => k_asm); (case r19_F => k_asm); (case r19_X => k_asm); (case r19_N => k_asm); (case r19_T => k_asm); (case r19_hk => first | exact rfl | assumption); (case r19_hd => ktr_room); (case r19_hu => ktr_units); (case r19_hc => k_mem); (case r19_ht => k_mem); (case r19_ci => assumption); (case r19_ti => assumption); (case r19_b1 => k_extra "there"); (case r19_b2 => omega)); intro r_v' r_h' r_tk' r_hv' r_F' r_N'; (try k_sweep); k_extra "latest"))
  k_with "call ref" => ((k_here; (with_reducible show wpAny _ _ (call (Value.ref 121) [Value.ref _, Value.ref _]) _ _ _); k_dflt (refine' waiting_con ?r20_B ?r20_F ?r20_X ?r20_N ?r20_T ?r20_hk ?r20_hd ?r20_hu ?r20_hc ?r20_ht ?r20_ci ?r20_ti ?r20_b1 ?r20_b2 ?r20_b3 ?_; (case r20_B => k_asm); (case r20_F => k_asm); (case r20_X => k_asm); (case r20_N => k_asm); (case r20_T => k_asm); (case r20_hk => first | exact rfl | assumption); (case r20_hd => ktr_room); (case r20_hu => ktr_units); (case r20_hc => k_mem); (case r20_ht => k_mem); (case r20_ci => assumption); (case r20_ti => assumption); (case r20_b1 => k_extra "there"); (case r20_b2 => omega); (case r20_b3 => first | omega | k_extra "therelen")); intro r_f' r_fvs' r_nf' r_h' r_tk' r_l1 r_hI' r_F' r_N'; (try simp only [List.forall_mem_cons] at r_l1); (try k_sweep); (try k_extra "waited")))
  k_with "call ref" => ((k_here; (with_reducible show wpAny _ _ (call (Value.ref 37) [Value.ref _, Value.int _ _]) _ _ _); (try k_extra "ahead"); k_dflt (refine' at_use ?r21_B ?r21_F ?r21_X ?r21_N ?r21_T ?r21_hk ?r21_hd ?r21_hu ?r21_hx ?r21_hdx ?r21_hc (fun o' => ?r21_U) ?r21_n1 ?r21_n2 ?r21_n3 ?r21_qi ?r21_ci ?r21_b0 ?r21_b1 ?r21_b2 ?r21_b3 ?r21_b4 ?r21_b5 ?_ ?_; (case r21_B => k_asm); (case r21_F => k_asm); (case r21_X => k_asm); (case r21_N => k_asm); (case r21_T => k_asm); (case r21_hk => first | exact rfl | assumption); (case r21_hd => ktr_room); (case r21_hu => ktr_units); (case r21_hx => k_mem); (case r21_hdx => k_mem); (case r21_hc => k_mem); (case r21_U => k_upd); (case r21_n1 => omega); (case r21_n2 => omega); (case r21_n3 => omega); (case r21_qi => assumption); (case r21_ci => assumption); (case r21_b0 => omega); (case r21_b1 => omega); (case r21_b2 => first | omega | k_extra "fresh"); (case r21_b3 => first | assumption | k_extra "queue"); (case r21_b4 => first | omega | k_extra "qlen"); (case r21_b5 => omega)); k_extra "at"))
  k_with "call ref" => ((k_here; (with_reducible show wpAny _ _ (call (Value.ref 40) [Value.int _ _, Value.int _ _, Value.ref _, Value.int _ _]) _ _ _); k_dflt (refine near_new4 (by k_asm) (by k_asm) (by k_asm) (by k_asm) (by k_asm) (by first | exact rfl | assumption) (by ktr_room) (by first | ktr_units | (simp only [units_under_make]; ktr_units)) ?_); intro r_x' r_d' r_q' r_k1' r_k2' r_k3' r_k4' r_k5' r_t1' r_t2' r_t3' r_nd' r_nq' r_h' r_tk' r_l1 r_l2 r_l3 r_F' r_N'; (try k_lt r_l1); (try k_sweep)))
  k_with "call ref" => ((k_here; (with_reducible show wpAny _ _ (call (Value.ref 40) [Value.int _ _, Value.int _ _, Value.ref _]) _ _ _); k_dflt (refine near_new3 (by k_asm) (by k_asm) (by k_asm) (by k_asm) (by k_asm) (by first | exact rfl | assumption) (by ktr_room) (by first | ktr_units | (simp only [units_under_make]; ktr_units)) ?_); intro r_x' r_d' r_q' r_k1' r_k2' r_k3' r_k4' r_k5' r_t1' r_t2' r_t3' r_nd' r_nq' r_h' r_tk' r_l1 r_l2 r_l3 r_F' r_N'; (try k_lt r_l1); (try k_sweep)))
  k_with "exec For Tuple Attribute cons nil" => ((k_here; (rename Fr _ _ _ _ => r_lF'); (with_unfolding_all refine' For_turns r_lF' ?_; k_whole)))
  k_with "newTuple" => ((k_here; k_dflt (refine' newTup_L ?r42_k1 ?r42_k2 ?_; (case r42_k1 => k_asm); (case r42_k2 => k_asm); k_whole); intro r_l' r_h' r_F' r_N' r_l1; (try k_lt r_l1); (try k_sweep)))
  k_with "call builtin:list.append" => ((k_here; (with_reducible show wpAny _ _ (call (Value.builtin _) [Value.ref _, Value.ref _]) _ _ _); k_dflt (refine' append_any ?r43_k1 ?r43_k2 (fun o' => ?r43_k3) ?r43_hl ?_; (case r43_k1 => k_asm); (case r43_k2 => k_asm); (case r43_k3 => k_upd); (case r43_hl => omega); k_whole); intro r_h' r_un' r_F' r_N'; (try dsimp only at r_N'); (try k_sweep)))
  k_with "pyIter ref" => ((k_here; (with_reducible show wpAny _ _ (pyIter (Value.ref _)) (fun it s₂ => TurnsAt _ _ _ _ _ _ _ _ _ it s₂) _ _); k_extra "turns"))
  k_with "exec For Tuple Call cons nil" => ((k_here; (rename Fr _ _ _ _ => r_lF'); (with_unfolding_all refine' For_turns r_lF' ?_; k_whole)))
  k_with "call type:enumerate" => ((k_here; (with_reducible show wpAny _ _ (call (Value.type _) [Value.ref _]) (fun xv s₁ => wpAny _ _ (pyIter xv) (fun it s₂ => TurnsAt _ _ _ _ _ _ _ _ _ it s₂) _ s₁) _ _); k_extra "enum"))
  k_with "isTrue BoolOp" => ((k_here; (fail_if_success (with_reducible show wpAny _ _ _ (fun _ _ => Owed _) _ _)); k_extra "cond"))
  refine wpAny_call ?_
  walk_at "ENTER"
  case kS => exact hS
  case kPost => exact fun L' v sub' => v = .bool true ∧ sub' = (l, listOf vs.toArray nl) :: (pr, listOf pvs.toArray np) :: TT
  case kRet =>
    rintro L' r sub' h' tk' hlt F' hs hn _ ⟨rfl, rfl⟩
    exact ret h' tk' F' (newsSame N hS hs hn)
  case kBody =>
    clear ret B F X₀ N T hS hS0
    intro g' L' h' tk' F' N' B' X' T' _
    try dsimp only
    k_fold
    k_with "enum" => (
      (rename Fr _ _ _ _ => lF'); (rename News _ _ _ _ => lN');
      (k_dflt (refine' tr_loop (len := len) (p0 := p0) (p1 := p1) (p2 := p2) (p3 := p3) (ms := ms) (R := R) lF' lN' rfl rfl rfl ?hk1 ?hk2 hT (fun p hp => (hTn p hp).2) hl h0 hR hd' ?turn ?done));
      clear lF' lN';
      (case' hk1 => k_dflt exact rfl);
      (case' hk2 => k_dflt exact rfl);
      (case' turn => (
        intro i sy r a n t1 t2 t3 Tp mv tm sv ts u h tk own hRi hok hTp hoff hI kFr kNews;
        (have hok9 := Owed.mk hok); clear hok; (try k_fold)));
      (case' done => (
        intro tm ts u h tk kFr kNews;
        (try k_fold))))
    k_with "cond" => (k_dflt (refine istrue_cut (sy = len ∧ r = 0) ?_ ?_ ?_); rotate_left; (intro tk8 hc8; (try k_fold)); rotate_left; (intro tk8 hn8; (try k_fold)); rotate_left)
    k_with "cond" => ((with_reducible show wpAny _ _ (PySem.isTrue (Expr.BoolOp _ (Expr.Compare _ _ [Expr.Constant (Const.int 16) _ _] _ :: _) _) _ _) _ _ _); k_dflt (refine istrue_cut (sy = 16 ∧ 0 ≤ r ∧ r < 4 ∧ 0 < len + (i : Int)) ?_ ?_ ?_); rotate_left; (intro tk8 hc8; (try k_fold)); rotate_left; (intro tk8 hn8; (try k_fold)); rotate_left)
    k_with "cond" => ((with_reducible show wpAny _ _ (PySem.isTrue (Expr.BoolOp _ (Expr.Compare _ _ [Expr.Constant (Const.int 17) _ _] _ :: _) _) _ _) _ _ _); k_dflt (refine istrue_cut (sy = 17 ∧ 0 ≤ r ∧ r < 8 ∧ len = 0) ?_ ?_ ?_); rotate_left; (intro tk8 hc8; (try k_fold)); rotate_left; (intro tk8 hn8; (try k_fold)); rotate_left)
    k_with "cond" => ((with_reducible show wpAny _ _ (PySem.isTrue (Expr.BoolOp _ (Expr.Compare _ _ [Expr.Constant (Const.int 18) _ _] _ :: _) _) _ _) _ _ _); k_dflt (refine istrue_cut (sy = 18 ∧ 0 ≤ r ∧ r < 128 ∧ len = 0) ?_ ?_ ?_); rotate_left; (intro tk8 hc8; (try k_fold)); rotate_left; (intro tk8 hn8; (try k_fold)); rotate_left)
    k_steps
    all_goals first
      | exact cut_yes (by omega)
      | exact cut_no (by omega)
      | exact (item_not hok9.out (by assumption) (by assumption) (by assumption) (by assumption)).elim
      | exact ⟨⟨_, fun p hp => hp, rfl, rfl⟩⟩
      | (
        (rename News _ _ _ _ => nE')
        refine' free_end ⟨_, _, _, _⟩ (by assumption) nE' ?hn ?ho ?hi trivial ?hk ?hr ?hp
        case hk => kst_all
        case hn =>
          refine List.forall_mem_cons.mpr ⟨by k_memK, List.forall_mem_cons.mpr ⟨by k_memK, fun p hp => ?_⟩⟩
          repeat (first | exact hp | exact List.mem_append_left _ hp | refine List.Mem.tail _ ?_)
        case ho =>
          intro p hp
          repeat (first | exact hp | exact List.mem_append_right _ hp | refine List.Mem.tail _ ?_)
        case hi => exact List.forall_mem_cons.mpr ⟨noIter_list _ _, List.forall_mem_cons.mpr ⟨noIter_list _ _, fun p hp => (hTn p hp).2⟩⟩
        case hr => kst_same
        case hp => first | exact tr_step hI (hc8.1 ▸ hRi) (sz_len hl hc8.2) (pr_len hl) | exact tr_step hI (hc8.1 ▸ hRi) sz_16 pr_16 | exact tr_step hI (hc8.1 ▸ hRi) sz_17 pr_17 | exact tr_step hI (hc8.1 ▸ hRi) sz_18 pr_18)
end

end
section
theorem sub_cons {x : Addr × Obj} {l news : List (Addr × Obj)} (h : x ∈ news) (hl : ∀ p ∈ l, p ∈ news) : ∀ p ∈ x :: l, p ∈ news := List.forall_mem_cons.mpr ⟨h, hl⟩
/-- a kind's numbers -/
noncomputable def Nf.kind (k : Nf) : Int × Int × Int × Int := (k.sy, k.f, k.m, k.fi)
def KsOk (len : Int) (ks : List Nf) : Prop := (1 ≤ len ∧ len ≤ 15 ∧ ks.map Nf.kind = [(16, 3, 6, 0)]) ∨ (len = 0 ∧ ks.map Nf.kind = [(17, 3, 10, 0), (18, 11, 138, 0), (16, 3, 6, 1)])
/-- the order in which they were made -/
def OrdK : Nat → List Nf → Prop
  | _, [] => True
  | lo, k :: ks => @LT.lt Nat _ lo k.d ∧ @LT.lt Nat _ k.d k.x ∧ @LT.lt Nat _ k.x k.q ∧ @LT.lt Nat _ k.q k.t ∧ OrdK k.t ks
def KindsOk (Pm : Params) (len : Int) (pr x dx c pc kd : Addr) (kl : List (Addr × Obj)) (ms : List Int) (n : Int) : Prop :=
  ∃ ks qs nk, kl = zipQ ks qs ++ fixs Pm c kd nk ks ∧ KsOk len ks ∧ QAll ms n ks qs ∧ OrdK pc ks ∧ @LT.lt Nat _ pc kd ∧ (∀ k ∈ ks, k.q ≠ kd) ∧ @LT.lt Nat _ pr dx ∧ @LT.lt Nat _ dx x ∧ @LT.lt Nat _ x c ∧ @LT.lt Nat _ c pc
/-- all that is true of a RunWays whose costs reach to n -/
def RunsOk (Pm : Params) (len p0 p1 p2 p3 : Int) (pr x dx c pc kd : Addr) (ms : List Int) (S : List (Int × Int)) (pcs : List Value) (kl P : List (Addr × Obj)) (n : Int) : Prop :=
  (ms.length : Int) = n + 1 ∧ ms.length = S.length + 1 ∧ gi ms 0 = 0 ∧ AllLeast (if len = 0 then 1 else 0) p0 p1 p2 p3 ms ms.length ∧ PiecesOk len p0 p1 p2 p3 ms S ∧ TupsAre P pcs S ∧ (∀ p ∈ P, NoIter p.2) ∧ OwnOff P (c :: pc :: kl.map (·.1)) ∧ KindsOk Pm len pr x dx c pc kd kl ms n
theorem KsOk.len {len : Int} {ks : List Nf} (h : KsOk len ks) : 0 ≤ len ∧ len ≤ 15 := by
  rcases h with ⟨h1, h2, _⟩ | ⟨h1, _⟩
  · exact ⟨Int.le_trans (by decide) h1, h2⟩
  · subst h1; exact ⟨by decide, by decide⟩
theorem KindsOk.len {Pm : Params} {len : Int} {pr x dx c pc kd : Addr} {kl : List (Addr × Obj)} {ms : List Int} {n : Int} (h : KindsOk Pm len pr x dx c pc kd kl ms n) : 0 ≤ len ∧ len ≤ 15 :=
  let ⟨_, _, _, _, h, _⟩ := h
  h.len
theorem OrdK.lo : ∀ {ks : List Nf} {lo : Nat}, OrdK lo ks → ∀ k ∈ ks, @LT.lt Nat _ lo k.d ∧ @LT.lt Nat _ k.d k.x ∧ @LT.lt Nat _ k.x k.q ∧ @LT.lt Nat _ k.q k.t
  | _ :: _, _, h, _, .head _ => ⟨h.1, h.2.1, h.2.2.1, h.2.2.2.1⟩
  | k0 :: _, lo, h, k, .tail _ hk => by
    obtain ⟨a, b⟩ := OrdK.lo h.2.2.2.2 k hk
    exact ⟨Nat.lt_trans h.1 (Nat.lt_trans h.2.1 (Nat.lt_trans h.2.2.1 (Nat.lt_trans h.2.2.2.1 a))), b⟩
theorem OrdK.hi {ks : List Nf} {lo : Nat} (h : OrdK lo ks) : ∀ k ∈ ks, @LT.lt Nat _ lo k.x ∧ @LT.lt Nat _ lo k.q ∧ @LT.lt Nat _ lo k.t := fun k hk => by
  obtain ⟨a, b, c, d⟩ := h.lo k hk
  exact ⟨Nat.lt_trans a b, Nat.lt_trans a (Nat.lt_trans b c), Nat.lt_trans a (Nat.lt_trans b (Nat.lt_trans c d))⟩
theorem OrdK.nodup : ∀ {ks : List Nf} {lo : Nat}, OrdK lo ks → (ks.map Nf.q).Nodup
  | [], _, _ => List.nodup_nil
  | k0 :: ks, _, h => List.nodup_cons.mpr ⟨fun hm => by
      obtain ⟨k, hk, e⟩ := List.mem_map.mp hm
      exact Nat.ne_of_gt (Nat.lt_trans h.2.2.2.1 (h.2.2.2.2.hi k hk).2.1) e, h.2.2.2.2.nodup⟩
theorem OrdK.off : ∀ {ks : List Nf} {lo : Nat}, OrdK lo ks → ∀ k ∈ ks, ∀ k' ∈ ks, k'.t ≠ k.q ∧ k'.x ≠ k.q ∧ k'.d ≠ k.q
  | k0 :: ks, _, h, k, hk, k', hk' => by
    obtain ⟨_, h1, h2, h3, ho⟩ := h
    rcases List.mem_cons.mp hk with rfl | g1 <;> rcases List.mem_cons.mp hk' with rfl | g2
    · exact ⟨Nat.ne_of_gt h3, Nat.ne_of_lt h2, Nat.ne_of_lt (Nat.lt_trans h1 h2)⟩
    · obtain ⟨a, b, c, d⟩ := ho.lo k' g2
      have e : @LT.lt Nat _ k.q k'.d := Nat.lt_trans h3 a
      exact ⟨Nat.ne_of_gt (Nat.lt_trans e (Nat.lt_trans b (Nat.lt_trans c d))), Nat.ne_of_gt (Nat.lt_trans e b), Nat.ne_of_gt e⟩
    · have e : @LT.lt Nat _ k'.t k.q := (ho.hi k g1).2.1
      exact ⟨Nat.ne_of_lt e, Nat.ne_of_lt (Nat.lt_trans h2 (Nat.lt_trans h3 e)), Nat.ne_of_lt (Nat.lt_trans h1 (Nat.lt_trans h2 (Nat.lt_trans h3 e)))⟩
    · exact ho.off k g1 k' g2
theorem fixs_addr {Pm : Params} {c kd : Addr} {nk : Nat} {ks : List Nf} : ∀ p ∈ fixs Pm c kd nk ks, p.1 = kd ∨ ∃ k ∈ ks, p.1 = k.t ∨ p.1 = k.x ∨ p.1 = k.d := fun p hp => by
  rcases List.mem_cons.mp hp with rfl | hp
  · exact .inl rfl
  · obtain ⟨k, hk, h⟩ := List.mem_flatMap.mp hp
    refine .inr ⟨k, hk, ?_⟩
    rcases List.mem_cons.mp h with rfl | h
    · exact .inl rfl
    rcases List.mem_cons.mp h with rfl | h
    · exact .inr (.inl rfl)
    rcases List.mem_cons.mp h with rfl | h
    · exact .inr (.inr rfl)
    cases h
theorem kl_above {Pm : Params} {c kd pc : Addr} {nk : Nat} {ks : List Nf} {qs : List Nq} (ho : OrdK pc ks) (hkd : @LT.lt Nat _ pc kd) : ∀ p ∈ zipQ ks qs ++ fixs Pm c kd nk ks, @LT.lt Nat _ pc p.1 := fun p hp => by
  rcases List.mem_append.mp hp with hp | hp
  · obtain ⟨k, hk, e⟩ := zipQ_addr p hp
    rw [e]; exact (ho.hi k hk).2.1
  · rcases fixs_addr p hp with e | ⟨k, hk, e | e | e⟩ <;> rw [e]
    · exact hkd
    · exact (ho.hi k hk).2.2
    · exact (ho.hi k hk).1
    · exact (ho.lo k hk).1
theorem KindsOk.above {Pm : Params} {len : Int} {pr x dx c pc kd : Addr} {kl : List (Addr × Obj)} {ms : List Int} {n : Int} (h : KindsOk Pm len pr x dx c pc kd kl ms n) : (∀ q ∈ kl, @LT.lt Nat _ pc q.1) ∧ (∀ q ∈ kl, NoIter q.2) ∧ @LT.lt Nat _ pr dx ∧ @LT.lt Nat _ dx x ∧ @LT.lt Nat _ x c ∧ @LT.lt Nat _ c pc := by
  obtain ⟨ks, qs, nk, rfl, _, _, h3, h4, _, h6⟩ := h
  exact ⟨kl_above h3 h4, fun q hq => (List.mem_append.mp hq).elim (zipQ_noIter q) (fixs_noIter q), h6⟩
theorem zipQ_map {ms : List Int} {n : Int} : ∀ {ks : List Nf} {qs : List Nq}, QAll ms n ks qs → (zipQ ks qs).map (·.1) = ks.map Nf.q
  | [], [], _ => rfl
  | k :: _, _ :: _, h => congrArg (k.q :: ·) (zipQ_map h.2)
theorem KsOk.all {len : Int} {ks : List Nf} (h : KsOk len ks) : ∀ k ∈ ks, KOk len k := fun k hk => by
  have hm : k.kind ∈ ks.map Nf.kind := List.mem_map_of_mem hk
  rcases h with ⟨h1, _, e⟩ | ⟨h0, e⟩ <;> rw [e] at hm
  · have e1 := List.mem_singleton.mp hm
    exact .inl ⟨congrArg (·.1) e1, congrArg (·.2.1) e1, congrArg (·.2.2.1) e1, (congrArg (·.2.2.2) e1).trans (if_neg (by omega)).symm⟩
  · rcases List.mem_cons.mp hm with e1 | hm
    · exact .inr (.inl ⟨h0, congrArg (·.1) e1, congrArg (·.2.1) e1, congrArg (·.2.2.1) e1, congrArg (·.2.2.2) e1⟩)
    rcases List.mem_cons.mp hm with e1 | hm
    · exact .inr (.inr ⟨h0, congrArg (·.1) e1, congrArg (·.2.1) e1, congrArg (·.2.2.1) e1, congrArg (·.2.2.2) e1⟩)
    · have e1 := List.mem_singleton.mp hm
      exact .inl ⟨congrArg (·.1) e1, congrArg (·.2.1) e1, congrArg (·.2.2.1) e1, (congrArg (·.2.2.2) e1).trans (if_pos h0).symm⟩
theorem kind_le {ks : List Nf} {ms : List Int} {count p1 p2 p3 b a f m fi : Int} (h : ∀ k ∈ ks, LeAll ms k.f k.m k.fi count (pkOf p1 p2 p3 k.sy) b) (hm : (a, f, m, fi) ∈ ks.map Nf.kind) : LeAll ms f m fi count (pkOf p1 p2 p3 a) b := by
  obtain ⟨k, hk, e⟩ := List.mem_map.mp hm
  have := h k hk
  rw [show k.sy = a from congrArg (·.1) e, show k.f = f from congrArg (·.2.1) e, show k.m = m from congrArg (·.2.2.1) e, show k.fi = fi from congrArg (·.2.2.2) e] at this
  exact this
theorem KsOk.tried {len p0 p1 p2 p3 count b : Int} {ms : List Int} {ks : List Nf} (h : KsOk len ks) (hb : b ≤ gi ms (count - 1) + p0) (hl : ∀ k ∈ ks, LeAll ms k.f k.m k.fi count (pkOf p1 p2 p3 k.sy) b) : AllTried (if len = 0 then 1 else 0) p0 p1 p2 p3 ms count b := by
  rcases h with ⟨h1, _, e⟩ | ⟨h0, e⟩
  · have hz : ¬ len = 0 := by omega
    rw [if_neg hz]
    exact ⟨hb, kind_le (a := 16) hl (by rw [e]; exact .head _), fun h => absurd h (by decide)⟩
  · rw [if_pos h0]
    exact ⟨hb, kind_le (a := 16) hl (by rw [e]; exact .tail _ (.tail _ (.head _))), fun _ => ⟨kind_le (a := 17) hl (by rw [e]; exact .head _), kind_le (a := 18) hl (by rw [e]; exact .tail _ (.head _))⟩⟩
/-- one more count: what RunWays.add leaves, whatever its kinds -/
theorem runs_add {Pm : Params} {len p0 p1 p2 p3 b sz sy count : Int} {pr x dx c pc kd t : Addr} {u1 u2 : Tok} {nt' : Nat} {ms : List Int} {S : List (Int × Int)} {pcs : List Value} {kl kl' P : List (Addr × Obj)}
    (hR : RunsOk Pm len p0 p1 p2 p3 pr x dx c pc kd ms S pcs kl P (count - 1)) (h1 : 1 ≤ count) (hp : PieceOk len ms p0 p1 p2 p3 count b sz sy) (hT : AllTried (if len = 0 then 1 else 0) p0 p1 p2 p3 ms count b)
    (hK : KindsOk Pm len pr x dx c pc kd kl' (ms ++ [b]) count) (ha : kl'.map (·.1) = kl.map (·.1)) (ht : ∀ q ∈ c :: pc :: kl.map (·.1), @LT.lt Nat _ q t) : RunsOk Pm len p0 p1 p2 p3 pr x dx c pc kd (ms ++ [b]) (S ++ [(sz, sy)]) (pcs ++ [.ref t]) kl' ((t, tup2 (.int sz u1) (.int sy u2) nt') :: P) count := by
  obtain ⟨a1, a2, a3, a4, a5, a6, a7, a8, a9⟩ := hR
  have e : (ms.length : Int) = count := by omega
  refine ⟨by rw [List.length_append, List.length_singleton]; omega, by rw [List.length_append, List.length_append, List.length_singleton, List.length_singleton, a2], ?_, ?_, ?_, (a6.mono fun p hp => .tail _ hp).snoc (.head _), List.forall_mem_cons.mpr ⟨tup2_noIter _ _ _, a7⟩, ?_, hK⟩
  · rw [← gi_app (by omega) (by omega)]; exact a3
  · exact a4.add (by rw [e]; exact least_add rfl h1 (e ▸ a4) hp hT)
  · exact a5.add hK.len a2 (by rw [e]; exact hp)
  · rw [ha]
    intro p hp q hq
    rcases List.mem_cons.mp hp with rfl | hp
    · exact Nat.ne_of_gt (ht q hq)
    · exact a8 p hp q hq
theorem led_in {α : Type} {x dx c pc pr p : α} {z f news : List α} (hS : ∀ p ∈ x :: dx :: c :: pc :: pr :: (z ++ f), p ∈ news) (hp : p ∈ c :: pc :: (z ++ (x :: dx :: pr :: f))) : p ∈ news := by
  refine hS p ?_
  simp only [List.mem_append, List.mem_cons] at hp ⊢
  rcases hp with h | h | h | h | h | h | h <;> simp [h]
theorem led_out {α : Type} {x dx c pc pr t p : α} {z f : List α} (hp : p ∈ c :: pc :: t :: (z ++ f)) : p ∈ t :: c :: pc :: (z ++ (x :: dx :: pr :: f)) := by
  simp only [List.mem_append, List.mem_cons] at hp ⊢
  rcases hp with h | h | h | h | h <;> simp [h]
theorem ofs {fx : List (Addr × Obj)} {x dx pr : Addr} {ox odx opr : Obj} {l : List Addr} (h1 : ∀ q ∈ l, x ≠ q) (h2 : ∀ q ∈ l, dx ≠ q) (h3 : ∀ q ∈ l, pr ≠ q) (h : OwnOff fx l) : OwnOff ((x, ox) :: (dx, odx) :: (pr, opr) :: fx) l := by
  intro p hp
  rcases List.mem_cons.mp hp with rfl | hp
  · exact h1
  rcases List.mem_cons.mp hp with rfl | hp
  · exact h2
  rcases List.mem_cons.mp hp with rfl | hp
  · exact h3
  · exact h p hp
theorem two {a b c : Addr} (h1 : a ≠ b) (h2 : a ≠ c) : ∀ q ∈ [b, c], a ≠ q := List.forall_mem_cons.mpr ⟨h1, List.forall_mem_cons.mpr ⟨h2, List.forall_mem_nil _⟩⟩
theorem one {a b : Addr} (h1 : a ≠ b) : ∀ q ∈ [b], a ≠ q := List.forall_mem_cons.mpr ⟨h1, List.forall_mem_nil _⟩
section
variable {w : World} {A₀ : Around} {s : Shared} {base h₀ : Heap} {outer : List Env} {L : Addr} {m mg mb : Str → Option Value} {news : List (Addr × Obj)} {loose : List Str} {mean : ExcName → Option Value}
  {dp un : Nat} {gd : Option (List Code)} {cn : Str} {cs : Scope} {a : Addr} {ccd : Value} {cl : List (Str × Addr)} {Q E : Value → Shared → Prop}
theorem runsadd_con {x dx pr c pc kd : Addr} {len count p0 p1 p2 p3 : Int} {ms Ps : List Int} {S : List (Int × Int)} {cvs pvs pcs : List Value} {nd np nc npc : Nat} {e1 e2 e3 e4 e5 e6 tk : Tok} {kl P rest : List (Addr × Obj)}
    (B : Below A₀ base outer h₀) (F : Fr h₀ L s.heap m) (X₀ : (hd.heap_39 w.params).In h₀) (N : News h₀ L s.heap news) (T : Top hd.view_39 loose mean mg mb h₀)
    (hk : cs.kind = .function) (hdp : dp < 380) (hun : un < 3800)
    (hS : ∀ p ∈ (x, instObj 82 dx) :: (dx, waysDict w.params e1 e2 e3 e4 e5 e6 nd len pr c pc kd) :: (c, listOf cvs.toArray nc) :: (pc, listOf (Value.none :: pcs).toArray npc) :: (pr, listOf pvs.toArray np) :: kl, p ∈ news)
    (hci : IntsAre cvs ms) (hpi : IntsAre pvs Ps) (hPs : PricesOk Ps len p0 p1 p2 p3) (hR : RunsOk w.params len p0 p1 p2 p3 pr x dx c pc kd ms S pcs kl P (count - 1)) (hc : 1 ≤ count ∧ count ≤ 20)
    (hrest : ∀ p ∈ rest, p ∈ news ∧ ∀ q ∈ c :: pc :: kl.map (·.1), p.1 ≠ q)
    (ret : ∀ t o cvs' nc' npc' ms' S' kl' h' tk', (∀ p ∈ news, p.1 < t) → IntsAre cvs' ms' → RunsOk w.params len p0 p1 p2 p3 pr x dx c pc kd ms' S' (pcs ++ [.ref t]) kl' ((t, o) :: P) count → kl'.map (·.1) = kl.map (·.1) → Fr h₀ L h' m →
      News h₀ L h' ((c, listOf cvs'.toArray nc') :: (pc, listOf (Value.none :: (pcs ++ [.ref t])).toArray npc') :: (t, o) :: (kl' ++ rest)) → Q .none { s with heap := h', toks := tk' }) :
    wpAny (model PySem.Challenge.rw_tk0114_01.row.prog w) (ktrTop dp un gd cn cs L a ccd cl outer) (call (.ref 65) [.ref x, .int count tk]) Q E s := by
  have hR0 := hR
  obtain ⟨g1, g2, g3, g4, g5, g6, g7, g8, ks, qs, nk, rfl, k1, k2, k3, k4, k5, o1, o2, o3, o4⟩ := hR
  have hpl : (Value.none :: pcs).length ≤ 100 := by
    have := g6.1
    rw [List.length_cons]; omega
  have ab := kl_above (Pm := w.params) (c := c) (nk := nk) (qs := qs) k3 k4
  have xc : @LT.lt Nat _ x pc := Nat.lt_trans o3 o4
  have dc : @LT.lt Nat _ dx c := Nat.lt_trans o2 o3
  have prc : @LT.lt Nat _ pr c := Nat.lt_trans o1 dc
  have hqp : ∀ k ∈ ks, @LT.lt Nat _ pc k.q := fun k hk => (k3.hi k hk).2.1
  have hlt : ∀ {a : Addr}, @LT.lt Nat _ a pc → ∀ k ∈ ks, a ≠ k.q := fun h k hk => Nat.ne_of_lt (Nat.lt_trans h (hqp k hk))
  have hfx : ∀ p ∈ fixs w.params c kd nk ks, @LT.lt Nat _ pc p.1 := fun p hp => ab p (List.mem_append_right _ hp)
  refine addg_con (fx := (x, instObj 82 dx) :: (dx, waysDict w.params e1 e2 e3 e4 e5 e6 nd len pr c pc kd) :: (pr, listOf pvs.toArray np) :: fixs w.params c kd nk ks) B F X₀ N T hk hdp hun (fun p hp => led_in hS hp) (.head _) (.tail _ (.head _)) (.tail _ (.tail _ (.head _))) (fun p hp => .tail _ (.tail _ (.tail _ hp)))
    (List.forall_mem_cons.mpr ⟨noIter_inst _ _, List.forall_mem_cons.mpr ⟨noIter_dict _ _, List.forall_mem_cons.mpr ⟨noIter_list _ _, fixs_noIter⟩⟩⟩) (Nat.ne_of_lt o4) (fun k hk => ⟨Nat.ne_of_gt (Nat.lt_trans o4 (hqp k hk)), Nat.ne_of_gt (hqp k hk)⟩)
    (ofs (two (Nat.ne_of_lt o3) (Nat.ne_of_lt xc)) (two (Nat.ne_of_lt dc) (Nat.ne_of_lt (Nat.lt_trans dc o4))) (two (Nat.ne_of_lt prc) (Nat.ne_of_lt (Nat.lt_trans prc o4))) fun p hp => two (Nat.ne_of_gt (Nat.lt_trans o4 (hfx p hp))) (Nat.ne_of_gt (hfx p hp)))
    (fun k hk => ofs (one (hlt xc k hk)) (one (hlt (Nat.lt_trans dc o4) k hk)) (one (hlt (Nat.lt_trans prc o4) k hk)) fun p hp => one (by
      rcases fixs_addr p hp with e | ⟨k', hk', e⟩
      · rw [e]; exact (k5 k hk).symm
      · obtain ⟨z1, z2, z3⟩ := k3.off k hk k' hk'
        rcases e with e | e | e <;> rw [e]
        · exact z1
        · exact z2
        · exact z3)) k3.nodup hci hpi (by omega) hc hPs hpl k1.len k1.all k2 ?_
  intro t cvs' nc' npc' qs' b sz sy nt' u1 u2 h' tk' hlt' i1 i2 pk le la F' hn hs
  have ea : (zipQ ks qs').map (·.1) = (zipQ ks qs).map (·.1) := (zipQ_map i2).trans (zipQ_map k2).symm
  have ek : (zipQ ks qs' ++ fixs w.params c kd nk ks).map (·.1) = (zipQ ks qs ++ fixs w.params c kd nk ks).map (·.1) := by rw [List.map_append, List.map_append, ea]
  refine ret t (tup2 (.int sz u1) (.int sy u2) nt') cvs' nc' npc' (ms ++ [b]) (S ++ [(sz, sy)]) (zipQ ks qs' ++ fixs w.params c kd nk ks) h' tk' hlt' i1 (runs_add hR0 hc.1 pk (k1.tried le la) ⟨ks, qs', nk, rfl, k1, i2.app (by omega) (fun k hk => ⟨(k1.all k hk).num.1.1, (k1.all k hk).num.1.2.2⟩), k3, k4, k5, o1, o2, o3, o4⟩ ek ?_) ek F' ?_
  · intro q hq
    have hp : ∀ p ∈ (c, listOf cvs.toArray nc) :: (pc, listOf (Value.none :: pcs).toArray npc) :: (zipQ ks qs ++ fixs w.params c kd nk ks), @LT.lt Nat _ p.1 t := fun p hp => hlt' p (hS p (by
      rcases List.mem_cons.mp hp with rfl | hp
      · exact .tail _ (.tail _ (.head _))
      rcases List.mem_cons.mp hp with rfl | hp
      · exact .tail _ (.tail _ (.tail _ (.head _)))
      · exact .tail _ (.tail _ (.tail _ (.tail _ (.tail _ hp))))))
    rcases List.mem_cons.mp hq with rfl | hq
    · exact hp _ (.head _)
    rcases List.mem_cons.mp hq with rfl | hq
    · exact hp _ (.tail _ (.head _))
    · obtain ⟨p, hp', rfl⟩ := List.mem_map.mp hq
      exact hp p (.tail _ (.tail _ hp'))
  · intro p hp
    have hp' : p ∈ ((c, listOf cvs'.toArray nc') :: (pc, listOf (Value.none :: (pcs ++ [Value.ref t])).toArray npc') :: (t, tup2 (.int sz u1) (.int sy u2) nt') :: (zipQ ks qs' ++ fixs w.params c kd nk ks)) ++ rest := by
      simpa using hp
    rcases List.mem_append.mp hp' with hp | hp
    · exact hs p (led_out hp)
    · refine hn p (hrest p hp).1 fun q hq => (hrest p hp).2 q ?_
      rcases List.mem_cons.mp hq with rfl | hq
      · exact .head _
      rcases List.mem_cons.mp hq with rfl | hq
      · exact .tail _ (.head _)
      · refine .tail _ (.tail _ ?_)
        rw [List.map_append, zipQ_map k2]
        exact List.mem_append_left _ hq
end

end
section
abbrev RunSt := (List Value × Nat) × List Int × (List Value × Nat) × List (Int × Int) × List (Addr × Obj) × List (Addr × Obj)
noncomputable abbrev runLed (x dx c pc pr : Addr) (odx opr : Obj) (fx : List (Addr × Obj)) (st : RunSt) : List (Addr × Obj) :=
  (x, instObj 82 dx) :: (dx, odx) :: (c, listOf st.1.1.toArray st.1.2) :: (pc, listOf (Value.none :: st.2.2.1.1).toArray st.2.2.1.2) :: (pr, opr) :: (fx ++ (st.2.2.2.2.1 ++ st.2.2.2.2.2))
theorem mem_swap {α : Type} {x dx c pc pr t p : α} {fx kl P own : List α} (hp : p ∈ (x :: dx :: c :: pc :: pr :: (fx ++ (kl ++ (t :: P)))) ++ own) : p ∈ c :: pc :: t :: (kl ++ (x :: dx :: pr :: (fx ++ (P ++ own)))) := by
  simp only [List.mem_append, List.mem_cons] at hp ⊢
  rcases hp with (h | h | h | h | h | h | h | h | h) | h <;> simp [h]
theorem mem_back {α : Type} {x dx c pc pr p : α} {fx kl P own : List α} (hp : p ∈ x :: dx :: pr :: (fx ++ (P ++ own))) : p ∈ (x :: dx :: c :: pc :: pr :: (fx ++ (kl ++ P))) ++ own := by
  simp only [List.mem_append, List.mem_cons] at hp ⊢
  rcases hp with h | h | h | h | h | h <;> simp [h]
theorem mem_head {α : Type} {x dx c pc pr p : α} {fx kl P own : List α} (hp : p ∈ x :: dx :: c :: pc :: pr :: kl) : p ∈ (x :: dx :: c :: pc :: pr :: (fx ++ (kl ++ P))) ++ own := by
  simp only [List.mem_append, List.mem_cons] at hp ⊢
  rcases hp with h | h | h | h | h | h <;> simp [h]
theorem off_low {c pc a : Addr} {kl : List (Addr × Obj)} (h1 : @LT.lt Nat _ a c) (h2 : @LT.lt Nat _ c pc) (h3 : ∀ q ∈ kl, @LT.lt Nat _ pc q.1) : ∀ q ∈ c :: pc :: kl.map (·.1), a ≠ q := by
  intro q hq
  rcases List.mem_cons.mp hq with rfl | hq
  · exact Nat.ne_of_lt h1
  rcases List.mem_cons.mp hq with rfl | hq
  · exact Nat.ne_of_lt (Nat.lt_trans h1 h2)
  · obtain ⟨p, hp, rfl⟩ := List.mem_map.mp hq
    exact Nat.ne_of_lt (Nat.lt_trans h1 (Nat.lt_trans h2 (h3 p hp)))
theorem off_own {x dx c pc pr : Addr} {ox odx oc opc opr : Obj} {fx kl P : List (Addr × Obj)} {q : Addr} (hq : q ∈ c :: pc :: kl.map (·.1)) : q ∈ ((x, ox) :: (dx, odx) :: (c, oc) :: (pc, opc) :: (pr, opr) :: (fx ++ (kl ++ P))).map (·.1) := by
  simp only [List.map_cons, List.map_append, List.mem_cons, List.mem_append] at hq ⊢
  rcases hq with h | h | h <;> simp [h]
section
variable {w : World} {A₀ : Around} {s : Shared} {base h₀ : Heap} {outer : List Env} {L : Addr} {m mg mb : Str → Option Value} {news : List (Addr × Obj)} {loose : List Str} {mean : ExcName → Option Value}
  {dp un : Nat} {gd : Option (List Code)} {cn : Str} {cs : Scope} {a : Addr} {ccd : Value} {cl : List (Str × Addr)} {Q E : Value → Shared → Prop}
theorem runsadd_use {x dx pr c pc kd : Addr} {len count p0 p1 p2 p3 : Int} {ms Ps : List Int} {S : List (Int × Int)} {cvs pvs pcs : List Value} {nd np nc npc : Nat} {e1 e2 e3 e4 e5 e6 tk : Tok} {kl P fx own : List (Addr × Obj)}
    (B : Below A₀ base outer h₀) (F : Fr h₀ L s.heap m) (X₀ : (hd.heap_39 w.params).In h₀) (N : News h₀ L s.heap (runLed x dx c pc pr (waysDict w.params e1 e2 e3 e4 e5 e6 nd len pr c pc kd) (listOf pvs.toArray np) fx ((cvs, nc), ms, (pcs, npc), S, kl, P) ++ own)) (T : Top hd.view_39 loose mean mg mb h₀)
    (hk : cs.kind = .function) (hdp : dp < 380) (hun : un < 3800)
    (hci : IntsAre cvs ms) (hpi : IntsAre pvs Ps) (hPs : PricesOk Ps len p0 p1 p2 p3) (hR : RunsOk w.params len p0 p1 p2 p3 pr x dx c pc kd ms S pcs kl P (count - 1)) (hc : 1 ≤ count ∧ count ≤ 20)
    (hfx : ∀ p ∈ fx, @LT.lt Nat _ p.1 dx) (hoff : OwnOff own ((runLed x dx c pc pr (waysDict w.params e1 e2 e3 e4 e5 e6 nd len pr c pc kd) (listOf pvs.toArray np) fx ((cvs, nc), ms, (pcs, npc), S, kl, P)).map (·.1)))
    (ret : ∀ t o cvs' nc' npc' ms' S' kl' h' tk', IntsAre cvs' ms' → RunsOk w.params len p0 p1 p2 p3 pr x dx c pc kd ms' S' (pcs ++ [.ref t]) kl' ((t, o) :: P) count → Fr h₀ L h' m →
      News h₀ L h' (runLed x dx c pc pr (waysDict w.params e1 e2 e3 e4 e5 e6 nd len pr c pc kd) (listOf pvs.toArray np) fx ((cvs', nc'), ms', (pcs ++ [.ref t], npc'), S', kl', (t, o) :: P) ++ own) → Q .none { s with heap := h', toks := tk' }) :
    wpAny (model PySem.Challenge.rw_tk0114_01.row.prog w) (ktrTop dp un gd cn cs L a ccd cl outer) (call (.ref 65) [.ref x, .int count tk]) Q E s := by
  obtain ⟨k1, k2, k3, k4, k5, k6⟩ := hR.2.2.2.2.2.2.2.2.above
  have kP := hR.2.2.2.2.2.2.2.1
  refine runsadd_con (rest := (x, instObj 82 dx) :: (dx, waysDict w.params e1 e2 e3 e4 e5 e6 nd len pr c pc kd) :: (pr, listOf pvs.toArray np) :: (fx ++ (P ++ own))) B F X₀ N T hk hdp hun (fun p hp => mem_head hp) hci hpi hPs hR hc (fun p hp => ⟨mem_back hp, ?_⟩) (fun t o cvs' nc' npc' ms' S' kl' h' tk' _ i1 i2 i3 F' N' => ret t o cvs' nc' npc' ms' S' kl' h' tk' i1 i2 F' fun p hp => N' p (mem_swap hp))
  rcases List.mem_cons.mp hp with rfl | hp
  · exact off_low k5 k6 k1
  rcases List.mem_cons.mp hp with rfl | hp
  · exact off_low (Nat.lt_trans k4 k5) k6 k1
  rcases List.mem_cons.mp hp with rfl | hp
  · exact off_low (Nat.lt_trans k3 (Nat.lt_trans k4 k5)) k6 k1
  rcases List.mem_append.mp hp with hp | hp
  · exact off_low (Nat.lt_trans (hfx p hp) (Nat.lt_trans k4 k5)) k6 k1
  rcases List.mem_append.mp hp with hp | hp
  · exact kP p hp
  · exact fun q hq => hoff p hp q (off_own hq)
end
section
variable {prog : Program} {w : World} {A : Around} {E : Value → Shared → Prop} {Q : Flow → Shared → Prop} {s : Shared} {env : Env} {h₀ : Heap} {body : List Stmt}
theorem runs_loop {Pm : Params} {y : Str} {r : Addr} {a₀ b₀ : Int} {t₀ u₀ v₀ : Tok} {n : Nat} {m₀ : Str → Option Value} {x dx pr c pc kd : Addr} {odx : Obj} {len p0 p1 p2 p3 : Int} {ms : List Int} {S : List (Int × Int)} {cvs pvs pcs : List Value} {np nc npc : Nat} {kl P fx : List (Addr × Obj)}
    {LL : Addr} {hp9 : Heap} {nl : List (Addr × Obj)} (F9 : Fr h₀ LL hp9 m₀) (N9 : News h₀ LL hp9 nl) (hsub : ∀ p ∈ runLed x dx c pc pr odx (listOf pvs.toArray np) fx ((cvs, nc), ms, (pcs, npc), S, kl, P), p ∈ nl) (hr9 : IsRange hp9 r a₀ b₀ 1 t₀ u₀ v₀) (hLL : env.locals = LL) (hhp : s.heap = hp9)
    (hh : A.handled = none) (hsmall : Builtin.Range.small a₀ b₀ 1 = true) (hn : Builtin.Range.rangeSize a₀ b₀ 1 = (n : Int))
    (hci : IntsAre cvs ms) (hR : RunsOk Pm len p0 p1 p2 p3 pr x dx c pc kd ms S pcs kl P (a₀ - 1)) (hfx : ∀ p ∈ fx, NoIter p.2) (hodx : NoIter odx)
    (turn : ∀ cvs nc ms pcs npc S kl P (i : Nat) t (u : Str → Option Value) h tk own, i < n → OwnOff own ((runLed x dx c pc pr odx (listOf pvs.toArray np) fx ((cvs, nc), ms, (pcs, npc), S, kl, P)).map (·.1)) → IntsAre cvs ms → RunsOk Pm len p0 p1 p2 p3 pr x dx c pc kd ms S pcs kl P (a₀ + (i : Int) - 1) →
      Fr h₀ env.locals h (fun z => if z = y then some (.int (a₀ + (i : Int)) t) else m₀ z) → News h₀ env.locals h (runLed x dx c pc pr odx (listOf pvs.toArray np) fx ((cvs, nc), ms, (pcs, npc), S, kl, P) ++ own) →
      wpAny (model prog w) A (execs body env) (FreePost h₀ env.locals (runLed x dx c pc pr odx (listOf pvs.toArray np) fx) (fun _ => []) (fun st => IntsAre st.1.1 st.2.1) y [] m₀ (fun st => RunsOk Pm len p0 p1 p2 p3 pr x dx c pc kd st.2.1 st.2.2.2.1 st.2.2.1.1 st.2.2.2.2.1 st.2.2.2.2.2 (a₀ + ((i + 1 : Nat) : Int) - 1)) own { s with heap := h, toks := tk } Q) E { s with heap := h, toks := tk })
    (done : ∀ cvs nc ms pcs npc S kl P (u : Str → Option Value) h tk, IntsAre cvs ms → RunsOk Pm len p0 p1 p2 p3 pr x dx c pc kd ms S pcs kl P (a₀ + (n : Int) - 1) →
      Fr h₀ env.locals h (fun z => if z = y then u z else m₀ z) → News h₀ env.locals h (runLed x dx c pc pr odx (listOf pvs.toArray np) fx ((cvs, nc), ms, (pcs, npc), S, kl, P)) → Q .next { s with heap := h, toks := tk }) :
    wpAny (model prog w) A (pyIter (.ref r)) (fun it s₂ => LoopAtV prog w A h₀ env y body Q E it s₂) E s := by
  subst hLL
  subst hhp
  refine free_range (runLed x dx c pc pr odx (listOf pvs.toArray np) fx) (fun _ => []) (fun st => IntsAre st.1.1 st.2.1) []
    (fun i st => RunsOk Pm len p0 p1 p2 p3 pr x dx c pc kd st.2.1 st.2.2.2.1 st.2.2.1.1 st.2.2.2.2.1 st.2.2.2.2.2 (a₀ + (i : Int) - 1)) ((cvs, nc), ms, (pcs, npc), S, kl, P) hh hr9 hsmall hn F9 (fun p hp => N9 p (hsub p hp)) hci (List.forall_mem_nil _) (by simpa using hR) ?_ ?_
  · rintro ⟨⟨cvs, nc⟩, ms, ⟨pcs, npc⟩, S, kl, P⟩ i t u h tk own hi hoff hf hp F' N'
    exact turn cvs nc ms pcs npc S kl P i t u h tk own hi hoff hf hp F' N'
  · rintro ⟨⟨cvs, nc⟩, ms, ⟨pcs, npc⟩, S, kl, P⟩ u h tk hf hp F' N'
    exact done cvs nc ms pcs npc S kl P u h tk hf hp F' N'
theorem runs_loopW {Pm : Params} {y : Str} {r : Addr} {a₀ b₀ : Int} {t₀ u₀ v₀ : Tok} {n : Nat} {m₀ : Str → Option Value} {x dx pr c pc kd : Addr} {e1 e2 e3 e4 e5 e6 : Tok} {nd : Nat} {len p0 p1 p2 p3 : Int} {ms : List Int} {S : List (Int × Int)} {cvs pvs pcs : List Value} {np nc npc : Nat} {kl P fx : List (Addr × Obj)}
    {LL : Addr} {hp9 : Heap} {nl : List (Addr × Obj)} (F9 : Fr h₀ LL hp9 m₀) (N9 : News h₀ LL hp9 nl) (hsub : ∀ p ∈ runLed x dx c pc pr (waysDict Pm e1 e2 e3 e4 e5 e6 nd len pr c pc kd) (listOf pvs.toArray np) fx ((cvs, nc), ms, (pcs, npc), S, kl, P), p ∈ nl) (hr9 : IsRange hp9 r a₀ b₀ 1 t₀ u₀ v₀) (hLL : env.locals = LL) (hhp : s.heap = hp9)
    (hh : A.handled = none) (hsmall : Builtin.Range.small a₀ b₀ 1 = true) (hn : Builtin.Range.rangeSize a₀ b₀ 1 = (n : Int))
    (hci : IntsAre cvs ms) (hR : RunsOk Pm len p0 p1 p2 p3 pr x dx c pc kd ms S pcs kl P (a₀ - 1)) (hfx : ∀ p ∈ fx, NoIter p.2)
    (turn : ∀ cvs nc ms pcs npc S kl P (i : Nat) t (u : Str → Option Value) h tk own, i < n → OwnOff own ((runLed x dx c pc pr (waysDict Pm e1 e2 e3 e4 e5 e6 nd len pr c pc kd) (listOf pvs.toArray np) fx ((cvs, nc), ms, (pcs, npc), S, kl, P)).map (·.1)) → IntsAre cvs ms → RunsOk Pm len p0 p1 p2 p3 pr x dx c pc kd ms S pcs kl P (a₀ + (i : Int) - 1) →
      Fr h₀ env.locals h (fun z => if z = y then some (.int (a₀ + (i : Int)) t) else m₀ z) → News h₀ env.locals h (runLed x dx c pc pr (waysDict Pm e1 e2 e3 e4 e5 e6 nd len pr c pc kd) (listOf pvs.toArray np) fx ((cvs, nc), ms, (pcs, npc), S, kl, P) ++ own) →
      wpAny (model prog w) A (execs body env) (FreePost h₀ env.locals (runLed x dx c pc pr (waysDict Pm e1 e2 e3 e4 e5 e6 nd len pr c pc kd) (listOf pvs.toArray np) fx) (fun _ => []) (fun st => IntsAre st.1.1 st.2.1) y [] m₀ (fun st => RunsOk Pm len p0 p1 p2 p3 pr x dx c pc kd st.2.1 st.2.2.2.1 st.2.2.1.1 st.2.2.2.2.1 st.2.2.2.2.2 (a₀ + ((i + 1 : Nat) : Int) - 1)) own { s with heap := h, toks := tk } Q) E { s with heap := h, toks := tk })
    (done : ∀ cvs nc ms pcs npc S kl P (u : Str → Option Value) h tk, IntsAre cvs ms → RunsOk Pm len p0 p1 p2 p3 pr x dx c pc kd ms S pcs kl P (a₀ + (n : Int) - 1) →
      Fr h₀ env.locals h (fun z => if z = y then u z else m₀ z) → News h₀ env.locals h (runLed x dx c pc pr (waysDict Pm e1 e2 e3 e4 e5 e6 nd len pr c pc kd) (listOf pvs.toArray np) fx ((cvs, nc), ms, (pcs, npc), S, kl, P)) → Q .next { s with heap := h, toks := tk }) :
    wpAny (model prog w) A (pyIter (.ref r)) (fun it s₂ => LoopAtV prog w A h₀ env y body Q E it s₂) E s :=
  runs_loop (odx := waysDict Pm e1 e2 e3 e4 e5 e6 nd len pr c pc kd) F9 N9 hsub hr9 hLL hhp hh hsmall hn hci hR hfx (noIter_dict _ _) turn done
end
theorem runLed_noIter {Pm : Params} {x dx pr c pc kd : Addr} {odx : Obj} {len p0 p1 p2 p3 n : Int} {ms : List Int} {S : List (Int × Int)} {cvs pvs pcs : List Value} {np nc npc : Nat} {kl P fx : List (Addr × Obj)} (hR : RunsOk Pm len p0 p1 p2 p3 pr x dx c pc kd ms S pcs kl P n) (hfx : ∀ p ∈ fx, NoIter p.2) (hodx : NoIter odx) :
    ∀ p ∈ runLed x dx c pc pr odx (listOf pvs.toArray np) fx ((cvs, nc), ms, (pcs, npc), S, kl, P), NoIter p.2 := by
  intro p hp
  simp only [runLed, List.mem_cons, List.mem_append] at hp
  rcases hp with rfl | rfl | rfl | rfl | rfl | h | h | h
  · exact noIter_inst _ _
  · exact hodx
  · exact noIter_list _ _
  · exact noIter_list _ _
  · exact noIter_list _ _
  · exact hfx p h
  · exact hR.2.2.2.2.2.2.2.2.above.2.1 p h
  · exact hR.2.2.2.2.2.2.1 p h
theorem runs_end {Pm : Params} {h₀ : Heap} {L : Addr} {y : Str} {m₀ m' : Str → Option Value} {x dx pr c pc kd : Addr} {odx : Obj} {len p0 p1 p2 p3 n n' : Int} {ms : List Int} {S : List (Int × Int)} {cvs pvs pcs : List Value} {np nc npc : Nat} {kl P fx own : List (Addr × Obj)} {s₁ : Shared} {h' : Heap} {tk : Nat}
    (F : Fr h₀ L h' m') (N : News h₀ L h' (runLed x dx c pc pr odx (listOf pvs.toArray np) fx ((cvs, nc), ms, (pcs, npc), S, kl, P) ++ own)) (hci : IntsAre cvs ms) (hR : RunsOk Pm len p0 p1 p2 p3 pr x dx c pc kd ms S pcs kl P n) (hfx : ∀ p ∈ fx, NoIter p.2) (hodx : NoIter odx) (hr : ∀ z, z ≠ y → m' z = m₀ z) (hn : n = n') :
    FreeEnd h₀ L (runLed x dx c pc pr odx (listOf pvs.toArray np) fx) (fun _ => []) (fun st => IntsAre st.1.1 st.2.1) y [] m₀ (fun st => RunsOk Pm len p0 p1 p2 p3 pr x dx c pc kd st.2.1 st.2.2.2.1 st.2.2.1.1 st.2.2.2.2.1 st.2.2.2.2.2 n') own s₁ { s₁ with heap := h', toks := tk } :=
  free_end ((cvs, nc), ms, (pcs, npc), S, kl, P) F N (fun p hp => List.mem_append_left _ hp) (fun p hp => List.mem_append_right _ hp) (runLed_noIter hR hfx hodx) hci (List.forall_mem_nil _) (fun z h1 _ _ => hr z h1) (hn ▸ hR)

end
section
theorem kinds_q0 {ms : List Int} {k : Nf} {nq : Nat} (h : 0 - k.f < k.fi) : QOk ms (1 - 1) k ⟨[], [], nq⟩ := by
  refine ⟨.nil, ?_⟩
  rw [show (1 : Int) - 1 = 0 from rfl, win_nil h]; rfl
theorem kinds_1 {Pm : Params} {len : Int} {pr x dx c pc kd t1 x1 d1 q1 : Addr} {nq1 nk nt1 ndd1 : Nat} {e7 a11 a12 a13 a14 a15 a16 a17 a18 : Tok} (hl : 1 ≤ len ∧ len ≤ 15) (ho : @LT.lt Nat _ pr dx ∧ @LT.lt Nat _ dx x ∧ @LT.lt Nat _ x c ∧ @LT.lt Nat _ c pc ∧ @LT.lt Nat _ pc d1 ∧ @LT.lt Nat _ d1 x1 ∧ @LT.lt Nat _ x1 q1 ∧ @LT.lt Nat _ q1 t1 ∧ @LT.lt Nat _ t1 kd) : KindsOk Pm len pr x dx c pc kd [(q1, listOf [].toArray nq1), (kd, listOf [Value.ref t1].toArray nk), (t1, tup2 (.int 16 e7) (.ref x1) nt1), (x1, instObj 40 d1), (d1, nearDict Pm a11 a12 a13 a14 a15 a16 a17 a18 ndd1 0 3 6 c q1)] [0] (1 - 1) := by
  obtain ⟨o1, o2, o3, o4, o5, o6, o7, o8, o9⟩ := ho
  have z1 : @LT.lt Nat _ q1 kd := Nat.lt_trans o8 o9
  refine ⟨[⟨t1, x1, d1, q1, 16, 3, 6, 0, nt1, ndd1, e7, a11, a12, a13, a14, a15, a16, a17, a18⟩], [⟨[], [], nq1⟩], nk, rfl, .inl ⟨hl.1, hl.2, rfl⟩, ⟨kinds_q0 (show (0 : Int) - 3 < 0 by decide), trivial⟩, ⟨o5, o6, o7, o8, trivial⟩, Nat.lt_trans o5 (Nat.lt_trans o6 (Nat.lt_trans o7 z1)), List.forall_mem_cons.mpr ⟨Nat.ne_of_lt z1, List.forall_mem_nil _⟩, o1, o2, o3, o4⟩
theorem kinds_3 {Pm : Params} {len : Int} {pr x dx c pc kd t1 x1 d1 q1 t2 x2 d2 q2 t3 x3 d3 q3 : Addr} {nq1 nq2 nq3 nk nt1 nt2 nt3 ndd1 ndd2 ndd3 : Nat} {y1 y2 y3 a11 a12 a13 a14 a15 a16 a17 a18 a21 a22 a23 a24 a25 a26 a27 a28 a31 a32 a33 a34 a35 a36 a37 a38 : Tok} (hl : len = 0) (ho : @LT.lt Nat _ pr dx ∧ @LT.lt Nat _ dx x ∧ @LT.lt Nat _ x c ∧ @LT.lt Nat _ c pc ∧ @LT.lt Nat _ pc d1 ∧ @LT.lt Nat _ d1 x1 ∧ @LT.lt Nat _ x1 q1 ∧ @LT.lt Nat _ q1 t1 ∧ @LT.lt Nat _ t1 d2 ∧ @LT.lt Nat _ d2 x2 ∧ @LT.lt Nat _ x2 q2 ∧ @LT.lt Nat _ q2 t2 ∧ @LT.lt Nat _ t2 kd ∧ @LT.lt Nat _ kd d3 ∧ @LT.lt Nat _ d3 x3 ∧ @LT.lt Nat _ x3 q3 ∧ @LT.lt Nat _ q3 t3) : KindsOk Pm len pr x dx c pc kd [(q1, listOf [].toArray nq1), (q2, listOf [].toArray nq2), (q3, listOf [].toArray nq3), (kd, listOf [Value.ref t1, Value.ref t2, Value.ref t3].toArray nk), (t1, tup2 (.int 17 y1) (.ref x1) nt1), (x1, instObj 40 d1), (d1, nearDict Pm a11 a12 a13 a14 a15 a16 a17 a18 ndd1 0 3 10 c q1), (t2, tup2 (.int 18 y2) (.ref x2) nt2), (x2, instObj 40 d2), (d2, nearDict Pm a21 a22 a23 a24 a25 a26 a27 a28 ndd2 0 11 138 c q2), (t3, tup2 (.int 16 y3) (.ref x3) nt3), (x3, instObj 40 d3), (d3, nearDict Pm a31 a32 a33 a34 a35 a36 a37 a38 ndd3 1 3 6 c q3)] [0] (1 - 1) := by
  obtain ⟨o1, o2, o3, o4, o5, o6, o7, o8, o9, p1, p2, p3, p4, p5, p6, p7, p8⟩ := ho
  have z2 : @LT.lt Nat _ q2 kd := Nat.lt_trans p3 p4
  have z1 : @LT.lt Nat _ q1 kd := Nat.lt_trans o8 (Nat.lt_trans o9 (Nat.lt_trans p1 (Nat.lt_trans p2 z2)))
  have z3 : @LT.lt Nat _ kd q3 := Nat.lt_trans p5 (Nat.lt_trans p6 p7)
  refine ⟨[⟨t1, x1, d1, q1, 17, 3, 10, 0, nt1, ndd1, y1, a11, a12, a13, a14, a15, a16, a17, a18⟩, ⟨t2, x2, d2, q2, 18, 11, 138, 0, nt2, ndd2, y2, a21, a22, a23, a24, a25, a26, a27, a28⟩, ⟨t3, x3, d3, q3, 16, 3, 6, 1, nt3, ndd3, y3, a31, a32, a33, a34, a35, a36, a37, a38⟩], [⟨[], [], nq1⟩, ⟨[], [], nq2⟩, ⟨[], [], nq3⟩], nk, rfl, .inr ⟨hl, rfl⟩,
    ⟨kinds_q0 (show (0 : Int) - 3 < 0 by decide), kinds_q0 (show (0 : Int) - 11 < 0 by decide), kinds_q0 (show (0 : Int) - 3 < 1 by decide), trivial⟩, ⟨o5, o6, o7, o8, o9, p1, p2, p3, Nat.lt_trans p4 p5, p6, p7, p8, trivial⟩, Nat.lt_trans o5 (Nat.lt_trans o6 (Nat.lt_trans o7 z1)),
    List.forall_mem_cons.mpr ⟨Nat.ne_of_lt z1, List.forall_mem_cons.mpr ⟨Nat.ne_of_lt z2, List.forall_mem_cons.mpr ⟨Nat.ne_of_gt z3, List.forall_mem_nil _⟩⟩⟩, o1, o2, o3, o4⟩
theorem runs_zero {Pm : Params} {len p0 p1 p2 p3 : Int} {pr x dx c pc kd : Addr} {kl : List (Addr × Obj)} (hK : KindsOk Pm len pr x dx c pc kd kl [0] (1 - 1)) : RunsOk Pm len p0 p1 p2 p3 pr x dx c pc kd [0] [] [] kl [] (1 - 1) := by
  refine ⟨rfl, rfl, rfl, ?_, fun i p h => ?_, TupsAre.nil, List.forall_mem_nil _, (fun p hp => nomatch hp), hK⟩
  · intro i h0 h1
    have e : i = 0 := by simp at h1; omega
    subst e
    exact least_zero
  · rw [List.getElem?_nil] at h; cases h
section
variable {prog : Program} {w : World} {A : Around} {E : Value → Shared → Prop} {Q : Flow → Shared → Prop} {s : Shared} {env : Env} {h₀ : Heap} {body : List Stmt}
theorem runs_loop1 {Pm : Params} {y : Str} {r : Addr} {a₀ b₀ : Int} {t₀ u₀ v₀ : Tok} {n : Nat} {m₀ : Str → Option Value} {x dx pr c pc kd : Addr} {e1 e2 e3 e4 e5 e6 : Tok} {nd : Nat} {len p0 p1 p2 p3 : Int} {cvs pvs : List Value} {np nc npc : Nat} {fx : List (Addr × Obj)} {t1 x1 d1 q1 : Addr} {nq1 nk nt1 ndd1 : Nat} {e7 a11 a12 a13 a14 a15 a16 a17 a18 : Tok}
    {LL : Addr} {hp9 : Heap} {nl : List (Addr × Obj)} (F9 : Fr h₀ LL hp9 m₀) (N9 : News h₀ LL hp9 nl) (hsub : ∀ p ∈ runLed x dx c pc pr (waysDict Pm e1 e2 e3 e4 e5 e6 nd len pr c pc kd) (listOf pvs.toArray np) fx ((cvs, nc), [0], ([], npc), [], [(q1, listOf [].toArray nq1), (kd, listOf [Value.ref t1].toArray nk), (t1, tup2 (.int 16 e7) (.ref x1) nt1), (x1, instObj 40 d1), (d1, nearDict Pm a11 a12 a13 a14 a15 a16 a17 a18 ndd1 0 3 6 c q1)], []), p ∈ nl) (hr9 : IsRange hp9 r a₀ b₀ 1 t₀ u₀ v₀) (hLL : env.locals = LL) (hhp : s.heap = hp9)
    (hh : A.handled = none) (hsmall : Builtin.Range.small a₀ b₀ 1 = true) (hn : Builtin.Range.rangeSize a₀ b₀ 1 = (n : Int))
    (hci : IntsAre cvs [0]) (hl1 : 1 ≤ len ∧ len ≤ 15) (ho : @LT.lt Nat _ pr dx ∧ @LT.lt Nat _ dx x ∧ @LT.lt Nat _ x c ∧ @LT.lt Nat _ c pc ∧ @LT.lt Nat _ pc d1 ∧ @LT.lt Nat _ d1 x1 ∧ @LT.lt Nat _ x1 q1 ∧ @LT.lt Nat _ q1 t1 ∧ @LT.lt Nat _ t1 kd) (ha : a₀ = 1) (hfx : ∀ p ∈ fx, NoIter p.2)
    (turn : ∀ cvs nc ms pcs npc S kl P (i : Nat) t (u : Str → Option Value) h tk own, i < n → OwnOff own ((runLed x dx c pc pr (waysDict Pm e1 e2 e3 e4 e5 e6 nd len pr c pc kd) (listOf pvs.toArray np) fx ((cvs, nc), ms, (pcs, npc), S, kl, P)).map (·.1)) → IntsAre cvs ms → RunsOk Pm len p0 p1 p2 p3 pr x dx c pc kd ms S pcs kl P (a₀ + (i : Int) - 1) →
      Fr h₀ env.locals h (fun z => if z = y then some (.int (a₀ + (i : Int)) t) else m₀ z) → News h₀ env.locals h (runLed x dx c pc pr (waysDict Pm e1 e2 e3 e4 e5 e6 nd len pr c pc kd) (listOf pvs.toArray np) fx ((cvs, nc), ms, (pcs, npc), S, kl, P) ++ own) →
      wpAny (model prog w) A (execs body env) (FreePost h₀ env.locals (runLed x dx c pc pr (waysDict Pm e1 e2 e3 e4 e5 e6 nd len pr c pc kd) (listOf pvs.toArray np) fx) (fun _ => []) (fun st => IntsAre st.1.1 st.2.1) y [] m₀ (fun st => RunsOk Pm len p0 p1 p2 p3 pr x dx c pc kd st.2.1 st.2.2.2.1 st.2.2.1.1 st.2.2.2.2.1 st.2.2.2.2.2 (a₀ + ((i + 1 : Nat) : Int) - 1)) own { s with heap := h, toks := tk } Q) E { s with heap := h, toks := tk })
    (done : ∀ cvs nc ms pcs npc S kl P (u : Str → Option Value) h tk, IntsAre cvs ms → RunsOk Pm len p0 p1 p2 p3 pr x dx c pc kd ms S pcs kl P (a₀ + (n : Int) - 1) →
      Fr h₀ env.locals h (fun z => if z = y then u z else m₀ z) → News h₀ env.locals h (runLed x dx c pc pr (waysDict Pm e1 e2 e3 e4 e5 e6 nd len pr c pc kd) (listOf pvs.toArray np) fx ((cvs, nc), ms, (pcs, npc), S, kl, P)) → Q .next { s with heap := h, toks := tk }) :
    wpAny (model prog w) A (pyIter (.ref r)) (fun it s₂ => LoopAtV prog w A h₀ env y body Q E it s₂) E s := by
  subst ha
  exact runs_loopW F9 N9 hsub hr9 hLL hhp hh hsmall hn hci (runs_zero (kinds_1 hl1 ho)) hfx turn done
theorem runs_loop3 {Pm : Params} {y : Str} {r : Addr} {a₀ b₀ : Int} {t₀ u₀ v₀ : Tok} {n : Nat} {m₀ : Str → Option Value} {x dx pr c pc kd : Addr} {e1 e2 e3 e4 e5 e6 : Tok} {nd : Nat} {len p0 p1 p2 p3 : Int} {cvs pvs : List Value} {np nc npc : Nat} {fx : List (Addr × Obj)} {t1 x1 d1 q1 t2 x2 d2 q2 t3 x3 d3 q3 : Addr} {nq1 nq2 nq3 nk nt1 nt2 nt3 ndd1 ndd2 ndd3 : Nat} {y1 y2 y3 a11 a12 a13 a14 a15 a16 a17 a18 a21 a22 a23 a24 a25 a26 a27 a28 a31 a32 a33 a34 a35 a36 a37 a38 : Tok}
    {LL : Addr} {hp9 : Heap} {nl : List (Addr × Obj)} (F9 : Fr h₀ LL hp9 m₀) (N9 : News h₀ LL hp9 nl) (hsub : ∀ p ∈ runLed x dx c pc pr (waysDict Pm e1 e2 e3 e4 e5 e6 nd len pr c pc kd) (listOf pvs.toArray np) fx ((cvs, nc), [0], ([], npc), [], [(q1, listOf [].toArray nq1), (q2, listOf [].toArray nq2), (q3, listOf [].toArray nq3), (kd, listOf [Value.ref t1, Value.ref t2, Value.ref t3].toArray nk), (t1, tup2 (.int 17 y1) (.ref x1) nt1), (x1, instObj 40 d1), (d1, nearDict Pm a11 a12 a13 a14 a15 a16 a17 a18 ndd1 0 3 10 c q1), (t2, tup2 (.int 18 y2) (.ref x2) nt2), (x2, instObj 40 d2), (d2, nearDict Pm a21 a22 a23 a24 a25 a26 a27 a28 ndd2 0 11 138 c q2), (t3, tup2 (.int 16 y3) (.ref x3) nt3), (x3, instObj 40 d3), (d3, nearDict Pm a31 a32 a33 a34 a35 a36 a37 a38 ndd3 1 3 6 c q3)], []), p ∈ nl) (hr9 : IsRange hp9 r a₀ b₀ 1 t₀ u₀ v₀) (hLL : env.locals = LL) (hhp : s.heap = hp9)
    (hh : A.handled = none) (hsmall : Builtin.Range.small a₀ b₀ 1 = true) (hn : Builtin.Range.rangeSize a₀ b₀ 1 = (n : Int))
    (hci : IntsAre cvs [0]) (hl3 : len = 0) (ho : @LT.lt Nat _ pr dx ∧ @LT.lt Nat _ dx x ∧ @LT.lt Nat _ x c ∧ @LT.lt Nat _ c pc ∧ @LT.lt Nat _ pc d1 ∧ @LT.lt Nat _ d1 x1 ∧ @LT.lt Nat _ x1 q1 ∧ @LT.lt Nat _ q1 t1 ∧ @LT.lt Nat _ t1 d2 ∧ @LT.lt Nat _ d2 x2 ∧ @LT.lt Nat _ x2 q2 ∧ @LT.lt Nat _ q2 t2 ∧ @LT.lt Nat _ t2 kd ∧ @LT.lt Nat _ kd d3 ∧ @LT.lt Nat _ d3 x3 ∧ @LT.lt Nat _ x3 q3 ∧ @LT.lt Nat _ q3 t3) (ha : a₀ = 1) (hfx : ∀ p ∈ fx, NoIter p.2)
    (turn : ∀ cvs nc ms pcs npc S kl P (i : Nat) t (u : Str → Option Value) h tk own, i < n → OwnOff own ((runLed x dx c pc pr (waysDict Pm e1 e2 e3 e4 e5 e6 nd len pr c pc kd) (listOf pvs.toArray np) fx ((cvs, nc), ms, (pcs, npc), S, kl, P)).map (·.1)) → IntsAre cvs ms → RunsOk Pm len p0 p1 p2 p3 pr x dx c pc kd ms S pcs kl P (a₀ + (i : Int) - 1) →
      Fr h₀ env.locals h (fun z => if z = y then some (.int (a₀ + (i : Int)) t) else m₀ z) → News h₀ env.locals h (runLed x dx c pc pr (waysDict Pm e1 e2 e3 e4 e5 e6 nd len pr c pc kd) (listOf pvs.toArray np) fx ((cvs, nc), ms, (pcs, npc), S, kl, P) ++ own) →
      wpAny (model prog w) A (execs body env) (FreePost h₀ env.locals (runLed x dx c pc pr (waysDict Pm e1 e2 e3 e4 e5 e6 nd len pr c pc kd) (listOf pvs.toArray np) fx) (fun _ => []) (fun st => IntsAre st.1.1 st.2.1) y [] m₀ (fun st => RunsOk Pm len p0 p1 p2 p3 pr x dx c pc kd st.2.1 st.2.2.2.1 st.2.2.1.1 st.2.2.2.2.1 st.2.2.2.2.2 (a₀ + ((i + 1 : Nat) : Int) - 1)) own { s with heap := h, toks := tk } Q) E { s with heap := h, toks := tk })
    (done : ∀ cvs nc ms pcs npc S kl P (u : Str → Option Value) h tk, IntsAre cvs ms → RunsOk Pm len p0 p1 p2 p3 pr x dx c pc kd ms S pcs kl P (a₀ + (n : Int) - 1) →
      Fr h₀ env.locals h (fun z => if z = y then u z else m₀ z) → News h₀ env.locals h (runLed x dx c pc pr (waysDict Pm e1 e2 e3 e4 e5 e6 nd len pr c pc kd) (listOf pvs.toArray np) fx ((cvs, nc), ms, (pcs, npc), S, kl, P)) → Q .next { s with heap := h, toks := tk }) :
    wpAny (model prog w) A (pyIter (.ref r)) (fun it s₂ => LoopAtV prog w A h₀ env y body Q E it s₂) E s := by
  subst ha
  exact runs_loopW F9 N9 hsub hr9 hLL hhp hh hsmall hn hci (runs_zero (kinds_3 hl3 ho)) hfx turn done
end

end
section
theorem RunsOk.at {Pm : Params} {len p0 p1 p2 p3 n n' : Int} {pr x dx c pc kd : Addr} {ms : List Int} {S : List (Int × Int)} {pcs : List Value} {kl P : List (Addr × Obj)} (h : RunsOk Pm len p0 p1 p2 p3 pr x dx c pc kd ms S pcs kl P n) (e : n = n') : RunsOk Pm len p0 p1 p2 p3 pr x dx c pc kd ms S pcs kl P n' := e ▸ h
section
variable {w : World} {A₀ : Around} {s : Shared} {base h₀ : Heap} {outer : List Env} {L : Addr} {m mg mb : Str → Option Value} {news : List (Addr × Obj)} {loose : List Str} {mean : ExcName → Option Value}
  {dp un : Nat} {gd : Option (List Code)} {cn : Str} {cs : Scope} {a : Addr} {ccd : Value} {cl : List (Str × Addr)} {Q E : Value → Shared → Prop}
theorem init_con {pr : Addr} {pvs : List Value} {np : Nat} {len begun p0 p1 p2 p3 : Int} {Ps : List Int} {tk1 tk2 : Tok}
    (B : Below A₀ base outer h₀) (F : Fr h₀ L s.heap m) (X₀ : (hd.heap_39 w.params).In h₀) (N : News h₀ L s.heap news) (T : Top hd.view_39 loose mean mg mb h₀)
    (hk : cs.kind = .function) (hdp : dp < 360) (hun : un < 3600)
    (hpr : (pr, listOf pvs.toArray np) ∈ news) (hpi : IntsAre pvs Ps) (hPs : PricesOk Ps len p0 p1 p2 p3) (hl : 0 ≤ len ∧ len ≤ 15) (hb : 0 ≤ begun ∧ begun ≤ 20)
    (ret : ∀ x dx c pc kd cvs nc ms pcs npc S kl P nd e1 e2 e3 e4 e5 e6 h' tk', (∀ p ∈ news, @LT.lt Nat _ p.1 dx) → IntsAre cvs ms → RunsOk w.params len p0 p1 p2 p3 pr x dx c pc kd ms S pcs kl P begun → Fr h₀ L h' m →
      News h₀ L h' (runLed x dx c pc pr (waysDict w.params e1 e2 e3 e4 e5 e6 nd len pr c pc kd) (listOf pvs.toArray np) [] ((cvs, nc), ms, (pcs, npc), S, kl, P) ++ news) → Q (.ref x) { s with heap := h', toks := tk' }) :
    wpAny (model PySem.Challenge.rw_tk0114_01.row.prog w) (ktrTop dp un gd cn cs L a ccd cl outer) (call (.ref 82) [.int len tk1, .ref pr, .int begun tk2]) Q E s := by
  walk_at "FILL"
  k_with "ENTER" => (k_dflt (refine' code_sub ?kPost ?k1 ?k2 ?k3 ?k4 ?k5 ?kA ?kF ?kK ?k6 ?k7 ?k8 ?k9 ?kB ?kS ?kBody ?kRet ?c5 ?c2 ?c3 ?c4; (case kA => exact rfl); (case kF => exact rfl); (case kK => k_asm); (case k1 => k_asm); (case k2 => k_asm); (case k3 => k_asm); (case k4 => k_asm); (case k5 => k_asm); (case k6 => k_is); (case k7 => k_is); (case k8 => ktr_room); (case k9 => first | exact BindsTo.of_eq (rfl : bindArgs _ _ = pure [(_, _)]) | exact BindsTo.of_eq (rfl : bindArgs _ _ = pure [(_, _), (_, _)]) | exact BindsTo.of_eq (rfl : bindArgs _ _ = pure [(_, _), (_, _), (_, _)]) | exact BindsTo.of_eq (rfl : bindArgs _ _ = pure [(_, _), (_, _), (_, _), (_, _)]) | exact BindsTo.of_eq (rfl : bindArgs _ _ = pure [(_, _), (_, _), (_, _), (_, _), (_, _)]) | exact BindsTo.of_eq rfl); (case c5 => decide); (case kB => exact locs rfl); (case c2 => exact rfl); (case c3 => exact rfl); (case c4 => exact rfl)))
  k_with "RetP" => (((try dsimp only [flv]); refine RetP.owed (by k_asm) (by k_asm) ?_))
  k_with "newList" => ((k_here; k_dflt (refine' newList_L ?r3_k1 ?r3_k2 ?_; (case r3_k1 => k_asm); (case r3_k2 => k_asm); k_whole); intro r_l' r_h' r_F' r_N' r_l1; (try k_lt r_l1); (try k_sweep)))
  k_with "call builtin:list.append" => ((k_here; (with_reducible show wpAny _ _ (call (Value.builtin _) [Value.ref _, Value.int _ _]) _ _ _); k_dflt (refine' append_ints ?r4_k1 ?r4_k2 (fun o' => ?r4_k3) ?r4_hi ?r4_hl ?_; (case r4_k1 => k_asm); (case r4_k2 => k_asm); (case r4_k3 => k_upd); (case r4_hi => assumption); (case r4_hl => first | omega | (simp only [List.length_append, List.length_cons, List.length_nil] at *; omega)); k_whole); intro r_h' r_us' r_un' r_hI' r_F' r_N'; (try dsimp only at r_N'); (try k_sweep)))
  k_with "FreePost" => ((dsimp only [FreePost]))
  k_with "NOITER" => ((repeat' (first | exact List.forall_mem_nil _ | (refine List.forall_mem_cons.mpr ⟨?_, ?_⟩) | exact noIter_list _ _ | exact noIter_inst _ _ | exact noIter_dict _ _ | exact noIter_tup _ _ | exact noIter_cell (by assumption))))
  k_with "OWNIN" => ((intro r_p r_hp; k_ownIn))
  k_with "subscriptTail" => ((k_here; (with_reducible show wpAny _ _ (subscriptTail _ _ (Value.ref _) (Value.int _ _)) _ _ _); k_dflt (refine' item_bnd ?r8_N ?r8_hm ?r8_hi ?r8_h0 ?r8_h1 ?r8_h2 ?_; (case r8_N => k_asm); (case r8_hm => k_mem); (case r8_hi => assumption); (case r8_h0 => first | omega | k_extra "low"); (case r8_h1 => first | omega | k_extra "high"); (case r8_h2 => omega)); intro r_t'))
  k_with "ENTERC" => (k_dflt (refine' code_subC ?kPost ?k1 ?k2 ?k3 ?k4 ?k5 ?kA ?kF ?kK ?k6 ?k7 ?k8 ?k9 ?kB ?kD ?kS ?kBody ?kRet ?c2 ?c3 ?c4; (case kA => exact rfl); (case kF => exact rfl); (case kK => k_asm); (case k1 => k_asm); (case k2 => k_asm); (case k3 => k_asm); (case k4 => k_asm); (case k5 => k_asm); (case k6 => k_is); (case k7 => k_is); (case k8 => ktr_room); (case k9 => first | exact BindsTo.of_eq (rfl : bindArgs _ _ = pure [(_, _)]) | exact BindsTo.of_eq (rfl : bindArgs _ _ = pure [(_, _), (_, _)]) | exact BindsTo.of_eq (rfl : bindArgs _ _ = pure [(_, _), (_, _), (_, _)]) | exact BindsTo.of_eq (rfl : bindArgs _ _ = pure [(_, _), (_, _), (_, _), (_, _)]) | exact BindsTo.of_eq (rfl : bindArgs _ _ = pure [(_, _), (_, _), (_, _), (_, _), (_, _)]) | exact BindsTo.of_eq rfl); (case kB => exact rfl); (case kD => decide +kernel); (case c2 => exact rfl); (case c3 => exact rfl); (case c4 => exact rfl)))
  k_with "GROUNDC" => ((intro r_g' r_L' r_h' r_tk' r_cells' r_F' r_N' r_Y' r_l1 r_B' r_X' r_T' r_lN; k_lt r_l1; k_cells r_Y'; (try simp only [List.cons_append, List.nil_append] at r_N'); (try dsimp only)))
  k_with "call ref" => ((k_here; (with_reducible show wpAny _ _ (call (Value.ref 100) [Value.ref _, Value.int _ _]) _ _ _); k_dflt (refine' take_use ?r17_B ?r17_F ?r17_X ?r17_N ?r17_T ?r17_hk ?r17_hd ?r17_hu (fun o' => ?r17_U) ?r17_hi ?r17_hJ ?r17_hb ?r17_h5 ?r17_h6 ?_; (case r17_B => k_asm); (case r17_F => k_asm); (case r17_X => k_asm); (case r17_N => k_asm); (case r17_T => k_asm); (case r17_hk => first | exact rfl | assumption); (case r17_hd => ktr_room); (case r17_hu => ktr_units); (case r17_U => k_upd); (case r17_hi => assumption); (case r17_hJ => assumption); (case r17_hb => omega); (case r17_h5 => omega); (case r17_h6 => omega)); intro r_d' r_t' r_vs' r_n' r_ns' r_h' r_tk' r_hd1' r_hd2' r_hI' r_hJ' r_F' r_N'; (try dsimp only at r_N'); (try k_sweep)))
  k_with "call ref" => ((k_here; (with_reducible show wpAny _ _ (call (Value.ref 107) [Value.ref _]) _ _ _); k_dflt (refine' costs_use ?r18_B ?r18_F ?r18_X ?r18_N ?r18_T ?r18_hk ?r18_hd ?r18_hu (fun o' => ?r18_U) ?r18_hi ?r18_hJ ?r18_hb ?_; (case r18_B => k_asm); (case r18_F => k_asm); (case r18_X => k_asm); (case r18_N => k_asm); (case r18_T => k_asm); (case r18_hk => first | exact rfl | assumption); (case r18_hd => ktr_room); (case r18_hu => ktr_units); (case r18_U => k_upd); (case r18_hi => assumption); (case r18_hJ => assumption); (case r18_hb => omega)); intro r_l' r_us' r_ms' r_k' r_vs' r_n' r_ns' r_h' r_tk' r_l1 r_hI' r_hm8' r_hm20' r_hJ'' r_hJ' r_F' r_N'; (try k_lt r_l1); (try dsimp only at r_N'); (try k_sweep)))
  k_with "call ref" => ((k_here; (with_reducible show wpAny _ _ (call (Value.ref 114) [Value.ref _, Value.ref _]) _ _ _); k_dflt (refine' latest_con ?r19_B ?r19_F ?r19_X ?r19_N ?r19_T ?r19_hk ?r19_hd ?r19_hu ?r19_hc ?r19_ht ?r19_ci ?r19_ti ?r19_b1 ?r19_b2 ?_; (case r19_B => k_asm); (case r19_F => k_asm); (case r19_X => k_asm); (case r19_N => k_asm); (case r19_T => k_asm); (case r19_hk => first | exact rfl | assumption); (case r19_hd => ktr_room); (case r19_hu => ktr_units); (case r19_hc => k_mem); (case r19_ht => k_mem); (case r19_ci => assumption); (case r19_ti => assumption); (case r19_b1 => k_extra "there"); (case r19_b2 => omega)); intro r_v' r_h' r_tk' r_hv' r_F' r_N'; (try k_sweep); k_extra "latest"))
  k_with "call ref" => ((k_here; (with_reducible show wpAny _ _ (call (Value.ref 121) [Value.ref _, Value.ref _]) _ _ _); k_dflt (refine' waiting_con ?r20_B ?r20_F ?r20_X ?r20_N ?r20_T ?r20_hk ?r20_hd ?r20_hu ?r20_hc ?r20_ht ?r20_ci ?r20_ti ?r20_b1 ?r20_b2 ?r20_b3 ?_; (case r20_B => k_asm); (case r20_F => k_asm); (case r20_X => k_asm); (case r20_N => k_asm); (case r20_T => k_asm); (case r20_hk => first | exact rfl | assumption); (case r20_hd => ktr_room); (case r20_hu => ktr_units); (case r20_hc => k_mem); (case r20_ht => k_mem); (case r20_ci => assumption); (case r20_ti => assumption); (case r20_b1 => k_extra "there"); (case r20_b2 => omega); (case r20_b3 => first | omega | k_extra "therelen")); intro r_f' r_fvs' r_nf' r_h' r_tk' r_l1 r_hI' r_F' r_N'; (try simp only [List.forall_mem_cons] at r_l1); (try k_sweep); (try k_extra "waited")))
  k_with "call ref" => ((k_here; (with_reducible show wpAny _ _ (call (Value.ref 37) [Value.ref _, Value.int _ _]) _ _ _); (try k_extra "ahead"); k_dflt (refine' at_use ?r21_B ?r21_F ?r21_X ?r21_N ?r21_T ?r21_hk ?r21_hd ?r21_hu ?r21_hx ?r21_hdx ?r21_hc (fun o' => ?r21_U) ?r21_n1 ?r21_n2 ?r21_n3 ?r21_qi ?r21_ci ?r21_b0 ?r21_b1 ?r21_b2 ?r21_b3 ?r21_b4 ?r21_b5 ?_ ?_; (case r21_B => k_asm); (case r21_F => k_asm); (case r21_X => k_asm); (case r21_N => k_asm); (case r21_T => k_asm); (case r21_hk => first | exact rfl | assumption); (case r21_hd => ktr_room); (case r21_hu => ktr_units); (case r21_hx => k_mem); (case r21_hdx => k_mem); (case r21_hc => k_mem); (case r21_U => k_upd); (case r21_n1 => omega); (case r21_n2 => omega); (case r21_n3 => omega); (case r21_qi => assumption); (case r21_ci => assumption); (case r21_b0 => omega); (case r21_b1 => omega); (case r21_b2 => first | omega | k_extra "fresh"); (case r21_b3 => first | assumption | k_extra "queue"); (case r21_b4 => first | omega | k_extra "qlen"); (case r21_b5 => omega)); k_extra "at"))
  k_with "call ref" => ((k_here; (with_reducible show wpAny _ _ (call (Value.ref 40) [Value.int _ _, Value.int _ _, Value.ref _, Value.int _ _]) _ _ _); k_dflt (refine near_new4 (by k_asm) (by k_asm) (by k_asm) (by k_asm) (by k_asm) (by first | exact rfl | assumption) (by ktr_room) (by first | ktr_units | (simp only [units_under_make]; ktr_units)) ?_); intro r_x' r_d' r_q' r_k1' r_k2' r_k3' r_k4' r_k5' r_t1' r_t2' r_t3' r_nd' r_nq' r_h' r_tk' r_l1 r_l2 r_l3 r_F' r_N'; (try k_lt r_l1); (try k_sweep)))
  k_with "call ref" => ((k_here; (with_reducible show wpAny _ _ (call (Value.ref 40) [Value.int _ _, Value.int _ _, Value.ref _]) _ _ _); k_dflt (refine near_new3 (by k_asm) (by k_asm) (by k_asm) (by k_asm) (by k_asm) (by first | exact rfl | assumption) (by ktr_room) (by first | ktr_units | (simp only [units_under_make]; ktr_units)) ?_); intro r_x' r_d' r_q' r_k1' r_k2' r_k3' r_k4' r_k5' r_t1' r_t2' r_t3' r_nd' r_nq' r_h' r_tk' r_l1 r_l2 r_l3 r_F' r_N'; (try k_lt r_l1); (try k_sweep)))
  k_with "exec For Tuple Attribute cons nil" => ((k_here; (rename Fr _ _ _ _ => r_lF'); (with_unfolding_all refine' For_turns r_lF' ?_; k_whole)))
  k_with "newTuple" => ((k_here; k_dflt (refine' newTup_L ?r42_k1 ?r42_k2 ?_; (case r42_k1 => k_asm); (case r42_k2 => k_asm); k_whole); intro r_l' r_h' r_F' r_N' r_l1; (try k_lt r_l1); (try k_sweep)))
  k_with "call builtin:list.append" => ((k_here; (with_reducible show wpAny _ _ (call (Value.builtin _) [Value.ref _, Value.ref _]) _ _ _); k_dflt (refine' append_any ?r43_k1 ?r43_k2 (fun o' => ?r43_k3) ?r43_hl ?_; (case r43_k1 => k_asm); (case r43_k2 => k_asm); (case r43_k3 => k_upd); (case r43_hl => omega); k_whole); intro r_h' r_un' r_F' r_N'; (try dsimp only at r_N'); (try k_sweep)))
  k_with "pyIter ref" => ((k_here; (with_reducible show wpAny _ _ (pyIter (Value.ref _)) (fun it s₂ => TurnsAt _ _ _ _ _ _ _ _ _ it s₂) _ _); k_extra "turns"))
  k_with "call ref" => ((k_here; (with_reducible show wpAny _ _ (call (Value.ref 65) [Value.ref _, Value.int _ _]) _ _ _); k_extra "radd"))
  refine' call_cls ?k1 ?k2 ?k3 ?k4 ?k5 ?k6 ?_
  case k1 => k_asm
  case k2 => k_asm
  case k3 => k_asm
  case k4 => k_is
  case k5 => k_is
  case k6 => k_is
  k_whole
  intro x dx hC FC NC l1 l2
  have hx1 : ∀ p ∈ news, @LT.lt Nat _ p.1 dx := l1
  have hx2 : @LT.lt Nat _ dx x := l2
  have hx3 : @LT.lt Nat _ pr dx := l1 _ hpr
  walk_at "ENTER"
  case kS => exact List.forall_mem_cons.mpr ⟨.head _, List.forall_mem_cons.mpr ⟨.tail _ (.head _), List.forall_mem_cons.mpr ⟨.tail _ (.tail _ hpr), List.forall_mem_nil _⟩⟩⟩
  case kPost =>
    exact fun L' v sub' => v = .none ∧ ∃ (c pc kd : Addr) (cvs : List Value) (nc : Nat) (ms : List Int) (pcs : List Value) (npc : Nat) (S : List (Int × Int)) (kl P : List (Addr × Obj)) (nd : Nat) (e1 e2 e3 e4 e5 e6 : Tok), IntsAre cvs ms ∧ RunsOk w.params len p0 p1 p2 p3 pr x dx c pc kd ms S pcs kl P begun ∧
      sub' = runLed x dx c pc pr (waysDict w.params e1 e2 e3 e4 e5 e6 nd len pr c pc kd) (listOf pvs.toArray np) [] ((cvs, nc), ms, (pcs, npc), S, kl, P)
  case kRet =>
    rintro L' r sub' h' tk' hlt F' hs hn hne ⟨rfl, c, pc, kd, cvs, nc, ms, pcs, npc, S, kl, P, nd, e1, e2, e3, e4, e5, e6, h1, h2, rfl⟩
    have a1 := hn
    refine ⟨rfl, ret x dx c pc kd cvs nc ms pcs npc S kl P nd e1 e2 e3 e4 e5 e6 h' tk' hx1 h1 h2 F' fun p hp => ?_⟩
    rcases List.mem_append.mp hp with hp | hp
    · exact hs p hp
    · by_cases hq : p.1 = pr
      · have e1 := (N p hp).1
        have e2 := (N _ hpr).1
        rw [hq, e2] at e1
        have e3 : p = (pr, listOf pvs.toArray np) := Prod.ext hq (Option.some.inj e1).symm
        rw [e3]
        exact hs _ (.tail _ (.tail _ (.tail _ (.tail _ (.head _)))))
      · refine hn p (.tail _ (.tail _ hp)) (List.forall_mem_cons.mpr ⟨Nat.ne_of_lt (Nat.lt_trans (hx1 p hp) hx2), List.forall_mem_cons.mpr ⟨Nat.ne_of_lt (hx1 p hp), List.forall_mem_cons.mpr ⟨hq, List.forall_mem_nil _⟩⟩⟩)
  case kBody =>
    clear ret B F X₀ N T FC NC l1 l2
    intro g' L' h' tk' F' N' B' X' T' hlt
    try dsimp only
    k_fold
    k_with "pyIter ref" => (
      (rename Fr _ _ _ _ => lF'); (rename News _ _ _ _ => lN'); (rename IsRange _ _ _ _ _ _ _ _ => rgX);
      (first
        | (
        (have hz9 : len = 0 := by assumption);
        (k_dflt (refine' runs_loop3 (Pm := w.params) (len := len) (p0 := p0) (p1 := p1) (p2 := p2) (p3 := p3) (x := x) (dx := dx) (pr := pr) (fx := []) lF' lN' (sub_cons ?usx (sub_cons ?usdx (sub_cons ?usc (sub_cons ?uspc (sub_cons ?uspr (sub_cons ?usq1 (sub_cons ?usq2 (sub_cons ?usq3 (sub_cons ?uskd (sub_cons ?ust1 (sub_cons ?usx1 (sub_cons ?usd1 (sub_cons ?ust2 (sub_cons ?usx2 (sub_cons ?usd2 (sub_cons ?ust3 (sub_cons ?usx3 (sub_cons ?usd3 (List.forall_mem_nil _))))))))))))))))))) rgX rfl rfl rfl (small_one (by omega) (by omega) (by omega) (by omega)) (rangeSize_nat _ _) ?uhci hz9 ?uho rfl (List.forall_mem_nil _) ?uturn ?udone));
        (case' usx => k_dflt k_memK);
        (case' usdx => k_dflt k_memK);
        (case' usc => k_dflt k_memK);
        (case' uspc => k_dflt k_memK);
        (case' uspr => k_dflt k_memK);
        (case' uskd => k_dflt k_memK);
        (case' ust1 => k_dflt k_memK);
        (case' ust2 => k_dflt k_memK);
        (case' ust3 => k_dflt k_memK);
        (case' usx1 => k_dflt k_memK);
        (case' usx2 => k_dflt k_memK);
        (case' usx3 => k_dflt k_memK);
        (case' usd1 => k_dflt k_memK);
        (case' usd2 => k_dflt k_memK);
        (case' usd3 => k_dflt k_memK);
        (case' usq1 => k_dflt k_memK);
        (case' usq2 => k_dflt k_memK);
        (case' usq3 => k_dflt k_memK);
        (case' uhci => first | assumption | k_dflt exact .cons _ _ .nil);
        (case' uho => (dsimp only at *; refine ⟨?_, ?_, ?_, ?_, ?_, ?_, ?_, ?_, ?_, ?_, ?_, ?_, ?_, ?_, ?_, ?_, ?_⟩ <;> first | assumption | omega));
        clear lF' lN';
        (case' uturn => (
          intro cvs nc ms pcs npc S kl P i t u h tk own hi9 hoff hcv hRo kFr kNews;
          (try dsimp only [runLed] at kNews);
          (try simp only [List.nil_append, List.cons_append] at kNews);
          (try k_fold)));
        (case' udone => (
          intro cvs nc ms pcs npc S kl P u h tk hcv hRo kFr kNews;
          (try dsimp only [runLed] at kNews);
          (try simp only [List.nil_append, List.cons_append] at kNews);
          (try k_fold))))
        | (
        (have hz9 : ¬ len = 0 := by assumption);
        (k_dflt (refine' runs_loop1 (Pm := w.params) (len := len) (p0 := p0) (p1 := p1) (p2 := p2) (p3 := p3) (x := x) (dx := dx) (pr := pr) (fx := []) lF' lN' (sub_cons ?vsx (sub_cons ?vsdx (sub_cons ?vsc (sub_cons ?vspc (sub_cons ?vspr (sub_cons ?vsq1 (sub_cons ?vskd (sub_cons ?vst1 (sub_cons ?vsx1 (sub_cons ?vsd1 (List.forall_mem_nil _))))))))))) rgX rfl rfl rfl (small_one (by omega) (by omega) (by omega) (by omega)) (rangeSize_nat _ _) ?vhci (by omega) ?vho rfl (List.forall_mem_nil _) ?vturn ?vdone));
        (case' vsx => k_dflt k_memK);
        (case' vsdx => k_dflt k_memK);
        (case' vsc => k_dflt k_memK);
        (case' vspc => k_dflt k_memK);
        (case' vspr => k_dflt k_memK);
        (case' vskd => k_dflt k_memK);
        (case' vst1 => k_dflt k_memK);
        (case' vsx1 => k_dflt k_memK);
        (case' vsd1 => k_dflt k_memK);
        (case' vsq1 => k_dflt k_memK);
        (case' vhci => first | assumption | k_dflt exact .cons _ _ .nil);
        (case' vho => (dsimp only at *; refine ⟨?_, ?_, ?_, ?_, ?_, ?_, ?_, ?_, ?_⟩ <;> first | assumption | omega));
        clear lF' lN';
        (case' vturn => (
          intro cvs nc ms pcs npc S kl P i t u h tk own hi9 hoff hcv hRo kFr kNews;
          (try dsimp only [runLed] at kNews);
          (try simp only [List.nil_append, List.cons_append] at kNews);
          (try k_fold)));
        (case' vdone => (
          intro cvs nc ms pcs npc S kl P u h tk hcv hRo kFr kNews;
          (try dsimp only [runLed] at kNews);
          (try simp only [List.nil_append, List.cons_append] at kNews);
          (try k_fold))))))
    k_with "radd" => (
      (k_dflt (refine runsadd_use (cvs := cvs) (nc := nc) (ms := ms) (pcs := pcs) (npc := npc) (S := S) (kl := kl) (P := P) (fx := []) (own := own) (by k_asm) (by k_asm) (by k_asm) (by k_asm) (by k_asm) (by first | exact rfl | assumption) (by ktr_room) (by first | ktr_units | (simp only [units_under_make]; ktr_units)) hcv hpi hPs hRo (by omega) (List.forall_mem_nil _) hoff ?_));
      intro t8 o8 cvs8 nc8 npc8 ms8 S8 kl8 h8 tk8 hcv8 hRo8 F8 N8;
      (try dsimp only [runLed] at N8);
      (try simp only [List.nil_append, List.cons_append] at N8);
      (try k_sweep); (try k_fold))
    k_steps
    all_goals first
      | exact ⟨⟨_, fun p hp => hp, rfl, _, _, _, cvs, nc, ms, pcs, npc, S, kl, P, _, _, _, _, _, _, _, hcv, hRo.at (by omega), rfl⟩⟩
      | exact runs_end (fx := []) (by assumption) N8 hcv8 hRo8 (List.forall_mem_nil _) (noIter_dict _ _) (by intro z h1; first | rfl | (simp [h1]; done)) (by omega)
end

end
section
/-- a hand: (f, m, first, price) -/
noncomputable def Nf.hand (k : Nf) : Int × Int × Int × Int := (k.f, k.m, k.fi, k.sy)
def HsOk (len p1 p2 p3 : Int) (hs : List Nf) : Prop := (¬ len = 0 ∧ hs.map Nf.hand = [(3, 6, 0, p1)]) ∨ (len = 0 ∧ hs.map Nf.hand = [(3, 6, 1, p1), (3, 10, 0, p2), (11, 138, 0, p3)])
def HOk (len p1 p2 p3 : Int) (k : Nf) : Prop := (k.f = 3 ∧ k.m = 6 ∧ k.fi = (if len = 0 then 1 else 0) ∧ k.sy = p1) ∨ (len = 0 ∧ k.f = 3 ∧ k.m = 10 ∧ k.fi = 0 ∧ k.sy = p2) ∨ (len = 0 ∧ k.f = 11 ∧ k.m = 138 ∧ k.fi = 0 ∧ k.sy = p3)
theorem HsOk.all {len p1 p2 p3 : Int} {hs : List Nf} (h : HsOk len p1 p2 p3 hs) : ∀ k ∈ hs, HOk len p1 p2 p3 k := fun k hk => by
  have hm : k.hand ∈ hs.map Nf.hand := List.mem_map_of_mem hk
  rcases h with ⟨h1, e⟩ | ⟨h0, e⟩ <;> rw [e] at hm
  · have e1 := List.mem_singleton.mp hm
    exact .inl ⟨congrArg (·.1) e1, congrArg (·.2.1) e1, (congrArg (·.2.2.1) e1).trans (if_neg h1).symm, congrArg (·.2.2.2) e1⟩
  · rcases List.mem_cons.mp hm with e1 | hm
    · exact .inl ⟨congrArg (·.1) e1, congrArg (·.2.1) e1, (congrArg (·.2.2.1) e1).trans (if_pos h0).symm, congrArg (·.2.2.2) e1⟩
    rcases List.mem_cons.mp hm with e1 | hm
    · exact .inr (.inl ⟨h0, congrArg (·.1) e1, congrArg (·.2.1) e1, congrArg (·.2.2.1) e1, congrArg (·.2.2.2) e1⟩)
    · have e1 := List.mem_singleton.mp hm
      exact .inr (.inr ⟨h0, congrArg (·.1) e1, congrArg (·.2.1) e1, congrArg (·.2.2.1) e1, congrArg (·.2.2.2) e1⟩)
theorem HOk.num {len p1 p2 p3 : Int} {k : Nf} (h : HOk len p1 p2 p3 k) : 3 ≤ k.f ∧ k.f ≤ k.m ∧ 0 ≤ k.fi := by
  rcases h with ⟨h1, h2, h3, _⟩ | ⟨_, h1, h2, h3, _⟩ | ⟨_, h1, h2, h3, _⟩ <;> rw [h1, h2, h3]
  · refine ⟨by decide, by decide, ?_⟩
    split <;> decide
  · decide
  · decide
theorem HOk.piece {len p0 p1 p2 p3 count i : Int} {ms : List Int} {k : Nf} (h : HOk len p1 p2 p3 k) (hb : BestAt ms k.f k.m k.fi count i) : ∃ sz sy, PieceOk len ms p0 p1 p2 p3 count (gi ms i + k.sy) sz sy := by
  obtain ⟨h1, h2, h3⟩ := hb.rng
  have e : count - (count - i) = i := by omega
  rcases h with ⟨a1, a2, a3, a4⟩ | ⟨a0, a1, a2, a3, a4⟩ | ⟨a0, a1, a2, a3, a4⟩ <;> rw [a1] at h2 <;> rw [a2] at h3 <;> rw [a3] at h1 <;> rw [a4]
  · exact ⟨count - i, 16, .inr (.inl ⟨rfl, h2, h3, by rw [e]; exact h1, by rw [e]⟩)⟩
  · exact ⟨count - i, 17, .inr (.inr (.inl ⟨a0, rfl, h2, h3, by rw [e]; exact h1, by rw [e]⟩))⟩
  · exact ⟨count - i, 18, .inr (.inr (.inr ⟨a0, rfl, h2, h3, by rw [e]; exact h1, by rw [e]⟩))⟩
/-- what _law_runs_right has found of a count ahead of its i-th hand -/
def FInv (len p0 p1 p2 p3 : Int) (ms : List Int) (count : Int) (hs : List Nf) (i : Nat) (fl : List Int) : Prop :=
  (count = 0 ∧ fl = [0]) ∨ (1 ≤ count ∧ (∀ v ∈ fl, ∃ sz sy, PieceOk len ms p0 p1 p2 p3 count v sz sy) ∧
    ∀ b, (∀ v ∈ fl, b ≤ v) → b ≤ gi ms (count - 1) + p0 ∧ ∀ j k, j < i → hs[j]? = some k → LeAll ms k.f k.m k.fi count k.sy b)
/-- what found begins with -/
def HStart (ms : List Int) (p0 count x : Int) : Prop := (1 ≤ count ∧ x = gi ms (count - 1) + p0) ∨ (count = 0 ∧ x = 0)
theorem hstart_1 {ms : List Int} {p0 count : Int} (h : 0 < count) : HStart ms p0 count (gi ms (count - 1) + p0) := .inl ⟨h, rfl⟩
theorem hstart_0 {ms : List Int} {p0 count : Int} (h0 : 0 ≤ count) (h : ¬ 0 < count) : HStart ms p0 count 0 := .inr ⟨by omega, rfl⟩
theorem finv_0 {len p0 p1 p2 p3 : Int} {ms : List Int} {hs : List Nf} {count x : Int} (h : HStart ms p0 count x) : FInv len p0 p1 p2 p3 ms count hs 0 [x] := by
  rcases h with ⟨h, rfl⟩ | ⟨h, rfl⟩
  · exact .inr ⟨h, fun v hv => ⟨1, len, .inl ⟨rfl, rfl, List.mem_singleton.mp hv⟩⟩, fun b hb => ⟨hb _ (.head _), fun _ _ h => nomatch h⟩⟩
  · exact .inl ⟨h, rfl⟩
theorem FInv.step {len p0 p1 p2 p3 count : Int} {ms fl fl' : List Int} {hs : List Nf} {i : Nat} {k : Nf} (h : FInv len p0 p1 p2 p3 ms count hs i fl) (hk : hs[i]? = some k) (ho : HOk len p1 p2 p3 k)
    (hf : (fl' = fl ∧ count - k.f < k.fi) ∨ ∃ q, fl' = fl ++ [gi ms q + k.sy] ∧ BestAt ms k.f k.m k.fi count q) : FInv len p0 p1 p2 p3 ms count hs (i + 1) fl' := by
  have hn := ho.num
  rcases h with ⟨h, e⟩ | ⟨h1, h2, h3⟩
  · rcases hf with ⟨rfl, _⟩ | ⟨q, _, hb⟩
    · exact .inl ⟨h, e⟩
    · have := hb.rng; omega
  · rcases hf with ⟨rfl, hl⟩ | ⟨q, rfl, hb⟩
    · refine .inr ⟨h1, h2, fun b hb' => ⟨(h3 b hb').1, fun j k' hj hk' => ?_⟩⟩
      by_cases e : j = i
      · subst e; rw [hk] at hk'; cases hk'; exact LeAll.none hl
      · exact (h3 b hb').2 j k' (by omega) hk'
    · refine .inr ⟨h1, fun v hv => (List.mem_append.mp hv).elim (h2 v) fun hv => (List.mem_singleton.mp hv) ▸ ho.piece hb, fun b hb' => ?_⟩
      have g1 : ∀ v ∈ fl, b ≤ v := fun v hv => hb' v (List.mem_append_left _ hv)
      refine ⟨(h3 b g1).1, fun j k' hj hk' => ?_⟩
      by_cases e : j = i
      · subst e; rw [hk] at hk'; cases hk'; exact LeAll.some hb (hb' _ (List.mem_append_right _ (.head _)))
      · exact (h3 b g1).2 j k' (by omega) hk'
theorem hand_le {hs : List Nf} {ms : List Int} {count b a f m fi : Int} (h : ∀ j k, j < hs.length → hs[j]? = some k → LeAll ms k.f k.m k.fi count k.sy b) (hm : (f, m, fi, a) ∈ hs.map Nf.hand) : LeAll ms f m fi count a b := by
  obtain ⟨k, hk, e⟩ := List.mem_map.mp hm
  obtain ⟨j, hj⟩ := List.mem_iff_getElem?.mp hk
  have := h j k (by obtain ⟨h1, _⟩ := List.getElem?_eq_some_iff.mp hj; exact h1) hj
  rw [show k.f = f from congrArg (·.1) e, show k.m = m from congrArg (·.2.1) e, show k.fi = fi from congrArg (·.2.2.1) e, show k.sy = a from congrArg (·.2.2.2) e] at this
  exact this
theorem finv_end {len p0 p1 p2 p3 M due : Int} {ms fl : List Int} {hs : List Nf} {count : Int} (ho : HsOk len p1 p2 p3 hs) (h : FInv len p0 p1 p2 p3 ms count hs hs.length fl) (hc : 0 ≤ count ∧ count < ms.length) (hA : AllLeast (if len = 0 then 1 else 0) p0 p1 p2 p3 ms ms.length) (hd : Least (if len = 0 then 1 else 0) p0 p1 p2 p3 count due) (h1 : M ∈ fl) (h2 : ∀ v ∈ fl, M ≤ v) : M = due := by
  rcases h with ⟨h, rfl⟩ | ⟨g1, g2, g3⟩
  · subst h
    rw [List.mem_singleton.mp h1]
    exact least_zero.eq hd
  · obtain ⟨sz, sy, hp⟩ := g2 M h1
    obtain ⟨a1, a2⟩ := g3 M h2
    refine (least_add rfl g1 (fun i i0 i1 => hA i i0 (by omega)) hp ?_).eq hd
    rcases ho with ⟨hz, e⟩ | ⟨hz, e⟩
    · rw [if_neg hz]
      exact ⟨a1, hand_le (f := 3) (m := 6) a2 (by rw [e]; exact .head _), fun h => absurd h (by decide)⟩
    · rw [if_pos hz]
      exact ⟨a1, hand_le (f := 3) (m := 6) a2 (by rw [e]; exact .head _), fun _ => ⟨hand_le (f := 3) (m := 10) a2 (by rw [e]; exact .tail _ (.head _)), hand_le (f := 11) (m := 138) a2 (by rw [e]; exact .tail _ (.tail _ (.head _)))⟩⟩
theorem finv_ne {len p0 p1 p2 p3 : Int} {ms fl : List Int} {count : Int} {hs : List Nf} {i : Nat} (h : FInv len p0 p1 p2 p3 ms count hs i fl) : 0 < fl.length := by
  rcases h with ⟨_, rfl⟩ | ⟨_, _, h3⟩
  · decide
  · cases fl with
    | nil => have := (h3 (gi ms (count - 1) + p0 + 1) (fun v hv => nomatch hv)).1; omega
    | cons _ _ => exact Nat.succ_pos _

end
section
section
variable {w : World} {A₀ : Around} {s : Shared} {base h₀ : Heap} {outer : List Env} {L : Addr} {m mg mb : Str → Option Value} {news : List (Addr × Obj)} {loose : List Str} {mean : ExcName → Option Value}
  {dp un : Nat} {gd : Option (List Code)} {cn : Str} {cs : Scope} {a : Addr} {ccd : Value} {cl : List (Str × Addr)} {Q E : Value → Shared → Prop}
theorem fewest_use {pr : Addr} {pvs : List Value} {np : Nat} {len many p0 p1 p2 p3 : Int} {tl tm : Tok}
    (B : Below A₀ base outer h₀) (F : Fr h₀ L s.heap m) (X₀ : (hd.heap_39 w.params).In h₀) (N : News h₀ L s.heap news) (T : Top hd.view_39 loose mean mg mb h₀)
    (hk : cs.kind = .function) (hdp : dp < 400) (hun : un < 4000)
    (hp : (pr, listOf pvs.toArray np) ∈ news) (hpi : IntsAre pvs [p0, p1, p2, p3])
    (b1 : 0 ≤ many ∧ many ≤ 20) (b2 : 0 ≤ p0 ∧ p0 ≤ 40 ∧ 0 ≤ p1 ∧ p1 ≤ 40 ∧ 0 ≤ p2 ∧ p2 ≤ 40 ∧ 0 ≤ p3 ∧ p3 ≤ 40)
    (ret : ∀ v t h' tk', Least (if len = 0 then 1 else 0) p0 p1 p2 p3 many v → Fr h₀ L h' m → News h₀ L h' news → Q (.int v t) { s with heap := h', toks := tk' }) :
    wpAny (model PySem.Challenge.rw_tk0114_01.row.prog w) (ktrTop dp un gd cn cs L a ccd cl outer) (call (.ref 133) [.int len tl, .ref pr, .int many tm]) Q E s := by
  have h01 : (if len = 0 then (1 : Int) else 0) = 0 ∨ (if len = 0 then (1 : Int) else 0) = 1 := by split <;> omega
  refine fewest_con (nt := if len = 0 then 1 else 0) B F X₀ N T hk hdp hun hp hpi b1 b2 ?_ h01 (fw_ne b1.1 h01) fun v t h' tk' h1 h2 F' N' => ret v t h' tk' (few_leastP h01 b2.1 h1 h2) F' N'
  by_cases h : len = 0
  · rw [if_pos h, if_pos (by simp [h])]
  · rw [if_neg h, if_neg (by simp [h])]
theorem told_use {x dx pr c pc kd : Addr} {len many p0 p1 p2 p3 : Int} {ms : List Int} {pcs : List Value} {S : List (Int × Int)} {kl P : List (Addr × Obj)} {nd npc : Nat} {e1 e2 e3 e4 e5 e6 tk : Tok} {n : Int}
    (B : Below A₀ base outer h₀) (F : Fr h₀ L s.heap m) (X₀ : (hd.heap_39 w.params).In h₀) (N : News h₀ L s.heap news) (T : Top hd.view_39 loose mean mg mb h₀)
    (hk : cs.kind = .function) (hdp : dp < 380) (hun : un < 3800)
    (hx : (x, instObj 82 dx) ∈ news) (hdx : (dx, waysDict w.params e1 e2 e3 e4 e5 e6 nd len pr c pc kd) ∈ news) (hpc : (pc, listOf (Value.none :: pcs).toArray npc) ∈ news) (hP : ∀ p ∈ P, p ∈ news)
    (hR : RunsOk w.params len p0 p1 p2 p3 pr x dx c pc kd ms S pcs kl P n) (hm : 0 ≤ many ∧ many ≤ 20) (hmn : many ≤ n)
    (ret : ∀ (l : Addr) (vs : List Value) (nl : Nat) (R : List (Int × Int)) (tl : List (Addr × Obj)) h' tk', (∀ p ∈ news, p.1 < l) → Told len p0 p1 p2 p3 ms many R → TupsAre tl vs R → Fr h₀ L h' m → News h₀ L h' ((l, listOf vs.toArray nl) :: (news ++ tl)) → Q (.ref l) { s with heap := h', toks := tk' }) :
    wpAny (model PySem.Challenge.rw_tk0114_01.row.prog w) (ktrTop dp un gd cn cs L a ccd cl outer) (call (.ref 72) [.ref x, .int many tk]) Q E s := by
  refine told_con B F X₀ N T hk hdp hun (sub_cons hx (sub_cons hdx (sub_cons hpc hP))) hR.2.2.2.2.2.1 hR.2.2.2.2.1 hR.2.2.2.2.2.2.2.2.len hm (by have := hR.1; have := hR.2.1; omega) fun l vs nl R tl h' tk' a1 a2 a3 F' N' => ret l vs nl R tl h' tk' a1 a2 a3 F' fun p hp => N' p ?_
  rcases List.mem_cons.mp hp with rfl | hp
  · exact .head _
  · rcases List.mem_append.mp hp with h | h
    · exact .tail _ (List.mem_append_right _ h)
    · exact .tail _ (List.mem_append_left _ h)
theorem toldright_use {l pr : Addr} {vs pvs : List Value} {nl np : Nat} {tl : List (Addr × Obj)} {R : List (Int × Int)} {len p0 p1 p2 p3 count due : Int} {ms : List Int} {tk1 tk2 tk3 : Tok}
    (B : Below A₀ base outer h₀) (F : Fr h₀ L s.heap m) (X₀ : (hd.heap_39 w.params).In h₀) (N : News h₀ L s.heap news) (T : Top hd.view_39 loose mean mg mb h₀)
    (hk : cs.kind = .function) (hdp : dp < 380) (hun : un < 3800)
    (hl' : (l, listOf vs.toArray nl) ∈ news) (hpr : (pr, listOf pvs.toArray np) ∈ news) (htl : ∀ p ∈ tl, p ∈ news)
    (hT0 : TupsAre tl vs R) (hpi : IntsAre pvs [p0, p1, p2, p3]) (hl : 0 ≤ len ∧ len ≤ 15) (h0 : gi ms 0 = 0) (hR : Told len p0 p1 p2 p3 ms count R) (hd' : gi ms count = due)
    (ret : ∀ h' tk', Fr h₀ L h' m → News h₀ L h' news → Q (.bool true) { s with heap := h', toks := tk' }) :
    wpAny (model PySem.Challenge.rw_tk0114_01.row.prog w) (ktrTop dp un gd cn cs L a ccd cl outer) (call (.ref 140) [.ref l, .int len tk1, .ref pr, .int count tk2, .int due tk3]) Q E s :=
  toldright_con B F X₀ N T hk hdp hun (sub_cons hl' (sub_cons hpr htl)) hT0 hpi hl h0 hR hd' ret
end

end
section
theorem off_hi {own l : List (Addr × Obj)} {l' : List (Addr × Obj)} (h : OwnOff own (l.map (·.1))) (e : l'.map (·.1) = l.map (·.1)) : ∀ p ∈ l', NoIter p.2 ∨ ∀ q ∈ own, q.1 ≠ p.1 :=
  fun p hp => .inr fun q hq => h q hq p.1 (e ▸ List.mem_map_of_mem hp)
/-- the last for of _law_runs_right, taken out of the function's record by unification -/
noncomputable def rrFor (Pm : Params) : { q : Scope × Value × List Stmt // ∃ oc od name qual params s0 s1 s2 s3 s4 s5 s6 s7 s8 s10 t i pos dV kV doc pm an ct osl, (hd.heap_39 Pm).lookup 147 = some ⟨oc, od, .func (fnOf name qual params [s0, s1, s2, s3, s4, s5, s6, s7, s8, .For t i q.2.2 [] pos, s10] q.1 dV kV doc pm an q.2.1 ct), osl⟩ } :=
  ⟨(_, _, _), _, _, _, _, _, _, _, _, _, _, _, _, _, _, _, _, _, _, _, _, _, _, _, _, _, rfl⟩
/-- its inner for -/
noncomputable def handFor (Pm : Params) : { q : PySem.Expr × List Stmt // ∃ s0 i pos s2 s3, (rrFor Pm).1.2.2 = [s0, .For q.1 i q.2 [] pos, s2, s3] } := ⟨(_, _), _, _, _, _, _, rfl⟩
noncomputable def Nf.fixH (Pm : Params) (c : Addr) (k : Nf) : List (Addr × Obj) := [(k.t, tup2 (.ref k.x) (.int k.sy k.y) k.nt), (k.x, instObj 40 k.d), (k.d, nearDict Pm k.a1 k.a2 k.a3 k.a4 k.a5 k.a6 k.a7 k.a8 k.nd k.fi k.f k.m c k.q)]
local macro_rules | `(tactic| k_mem) => `(tactic| assumption)
section
variable {w : World} {A₀ : Around} {s : Shared} {base h₀ : Heap} {outer : List Env} {L : Addr} {m mg mb : Str → Option Value} {news : List (Addr × Obj)} {loose : List Str} {mean : ExcName → Option Value}
  {dp un : Nat} {gd : Option (List Code)} {cn : Str} {cs : Scope} {a : Addr} {ccd : Value} {cl : List (Str × Addr)} {Rf : Flow → Shared → Prop}
theorem hand_turn {g hp9 : Heap} {L9 : Addr} {tk : Nat} {m₀ : Str → Option Value} {x dx c pc pr kd t xk dk q fd : Addr} {len count f mx fi pk : Int} {cvs fvs qv : List Value} {ms fl ql : List Int} {nc nd nt ndk nq nf : Nat} {e1 e2 e3 e4 e5 e6 tc y a1 a2 a3 a4 a5 a6 a7 a8 : Tok} {R : List (Addr × Obj)}
    (B : Below (ktrTop dp un gd cn cs L a ccd cl outer) base (envX cn cs L a ccd cl :: outer) g) (X₀ : (hd.heap_39 w.params).In g) (T : Top hd.view_39 loose mean mg mb g)
    (hk : cs.kind = .function) (hdp : dp < 320) (hun : un < 3000)
    (F : Fr g L9 hp9 m₀) (f1 : m₀ (PySem.Str.ofString "found") = some (.ref fd)) (f2 : m₀ (PySem.Str.ofString "ways") = some (.ref x)) (f3 : m₀ (PySem.Str.ofString "count") = some (.int count tc))
    (N : News g L9 hp9 ((fd, listOf fvs.toArray nf) :: (q, listOf qv.toArray nq) :: R))
    (m1 : (x, instObj 82 dx) ∈ R) (m2 : (dx, waysDict w.params e1 e2 e3 e4 e5 e6 nd len pr c pc kd) ∈ R) (m3 : (c, listOf cvs.toArray nc) ∈ R)
    (m5 : (t, tup2 (.ref xk) (.int pk y) nt) ∈ R) (m6 : (xk, instObj 40 dk) ∈ R) (m7 : (dk, nearDict w.params a1 a2 a3 a4 a5 a6 a7 a8 ndk fi f mx c q) ∈ R)
    (hR : OwnOff R [fd, q]) (hfq : @Ne Nat fd q) (n1 : @Ne Nat q xk) (n2 : @Ne Nat q dk) (n3 : @Ne Nat q c)
    (hci : IntsAre cvs ms) (hfi : IntsAre fvs fl) (hqi : IntsAre qv ql) (hq1 : ql = waitP ms (win f mx fi (count - 1)))
    (hms : 0 ≤ count ∧ count ≤ 20 ∧ count < ms.length ∧ (ms.length : Int) ≤ 21) (hfl : fl.length ≤ 100) (hfm : 3 ≤ f ∧ f ≤ mx ∧ 0 ≤ fi)
    (ret : ∀ h' tk' m' fvs' fl' nf' qv' nq', Fr g L9 h' m' → News g L9 h' ((fd, listOf fvs'.toArray nf') :: (q, listOf qv'.toArray nq') :: R) → IntsAre fvs' fl' → IntsAre qv' (waitP ms (win f mx fi count)) → ((fl' = fl ∧ count - f < fi) ∨ ∃ i, fl' = fl ++ [gi ms i + pk] ∧ BestAt ms f mx fi count i) →
      (∀ z, z ≠ PySem.Str.ofString "" → (∀ p ∈ ([] : List (Str × Value)), z ≠ p.1) → [PySem.Str.ofString "nearest", PySem.Str.ofString "more", PySem.Str.ofString "place"].contains z = false → m' z = m₀ z) → Rf .next { s with heap := h', toks := tk' }) :
    wpAny (model PySem.Challenge.rw_tk0114_01.row.prog w) ((ktrTop dp un gd cn cs L a ccd cl outer).deeper (envOf (PySem.Str.ofString "_law_runs_right") (rrFor w.params).1.1 L9 147 (rrFor w.params).1.2.1)) (assign (handFor w.params).1.1 (envOf (PySem.Str.ofString "_law_runs_right") (rrFor w.params).1.1 L9 147 (rrFor w.params).1.2.1) (.ref t)) (fun _ s₁ => wpAny (model PySem.Challenge.rw_tk0114_01.row.prog w) ((ktrTop dp un gd cn cs L a ccd cl outer).deeper (envOf (PySem.Str.ofString "_law_runs_right") (rrFor w.params).1.1 L9 147 (rrFor w.params).1.2.1)) (execs (handFor w.params).1.2 (envOf (PySem.Str.ofString "_law_runs_right") (rrFor w.params).1.1 L9 147 (rrFor w.params).1.2.1)) Rf (fun _ _ => False) s₁) (fun _ _ => False) { s with heap := hp9, toks := tk } := by
  obtain ⟨u₀, rfl⟩ := frame3 f1 f2 f3
  clear f1 f2 f3
  unfold waysDict at m2
  unfold nearDict at m7
  dsimp only [handFor, rrFor]
  walk_at "FILL"
  k_with "ENTER" => (k_dflt (refine' code_sub ?kPost ?k1 ?k2 ?k3 ?k4 ?k5 ?kA ?kF ?kK ?k6 ?k7 ?k8 ?k9 ?kB ?kS ?kBody ?kRet ?c5 ?c2 ?c3 ?c4; (case kA => exact rfl); (case kF => exact rfl); (case kK => k_asm); (case k1 => k_asm); (case k2 => k_asm); (case k3 => k_asm); (case k4 => k_asm); (case k5 => k_asm); (case k6 => k_is); (case k7 => k_is); (case k8 => ktr_room); (case k9 => first | exact BindsTo.of_eq (rfl : bindArgs _ _ = pure [(_, _)]) | exact BindsTo.of_eq (rfl : bindArgs _ _ = pure [(_, _), (_, _)]) | exact BindsTo.of_eq (rfl : bindArgs _ _ = pure [(_, _), (_, _), (_, _)]) | exact BindsTo.of_eq (rfl : bindArgs _ _ = pure [(_, _), (_, _), (_, _), (_, _)]) | exact BindsTo.of_eq (rfl : bindArgs _ _ = pure [(_, _), (_, _), (_, _), (_, _), (_, _)]) | exact BindsTo.of_eq rfl); (case c5 => decide); (case kB => exact locs rfl); (case c2 => exact rfl); (case c3 => exact rfl); (case c4 => exact rfl)))
  k_with "RetP" => (((try dsimp only [flv]); refine RetP.owed (by k_asm) (by k_asm) ?_))
  k_with "newList" => ((k_here; k_dflt (refine' newList_L ?r3_k1 ?r3_k2 ?_; (case r3_k1 => k_asm); (case r3_k2 => k_asm); k_whole); intro r_l' r_h' r_F' r_N' r_l1; (try k_lt r_l1); (try k_sweep)))
  k_with "call builtin:list.append" => ((k_here; (with_reducible show wpAny _ _ (call (Value.builtin _) [Value.ref _, Value.int _ _]) _ _ _); k_dflt (refine' append_ints ?r4_k1 ?r4_k2 (fun o' => ?r4_k3) ?r4_hi ?r4_hl ?_; (case r4_k1 => k_asm); (case r4_k2 => k_asm); (case r4_k3 => k_upd); (case r4_hi => assumption); (case r4_hl => first | omega | (simp only [List.length_append, List.length_cons, List.length_nil] at *; omega)); k_whole); intro r_h' r_us' r_un' r_hI' r_F' r_N'; (try dsimp only at r_N'); (try k_sweep)))
  k_with "FreePost" => ((dsimp only [FreePost]))
  k_with "NOITER" => ((repeat' (first | exact List.forall_mem_nil _ | (refine List.forall_mem_cons.mpr ⟨?_, ?_⟩) | exact noIter_list _ _ | exact noIter_inst _ _ | exact noIter_dict _ _ | exact noIter_tup _ _ | exact noIter_cell (by assumption))))
  k_with "OWNIN" => ((intro r_p r_hp; k_ownIn))
  k_with "subscriptTail" => ((k_here; (with_reducible show wpAny _ _ (subscriptTail _ _ (Value.ref _) (Value.int _ _)) _ _ _); k_dflt (refine' item_bnd ?r8_N ?r8_hm ?r8_hi ?r8_h0 ?r8_h1 ?r8_h2 ?_; (case r8_N => k_asm); (case r8_hm => k_mem); (case r8_hi => assumption); (case r8_h0 => first | omega | k_extra "low"); (case r8_h1 => first | omega | k_extra "high"); (case r8_h2 => omega)); intro r_t'))
  k_with "ENTERC" => (k_dflt (refine' code_subC ?kPost ?k1 ?k2 ?k3 ?k4 ?k5 ?kA ?kF ?kK ?k6 ?k7 ?k8 ?k9 ?kB ?kD ?kS ?kBody ?kRet ?c2 ?c3 ?c4; (case kA => exact rfl); (case kF => exact rfl); (case kK => k_asm); (case k1 => k_asm); (case k2 => k_asm); (case k3 => k_asm); (case k4 => k_asm); (case k5 => k_asm); (case k6 => k_is); (case k7 => k_is); (case k8 => ktr_room); (case k9 => first | exact BindsTo.of_eq (rfl : bindArgs _ _ = pure [(_, _)]) | exact BindsTo.of_eq (rfl : bindArgs _ _ = pure [(_, _), (_, _)]) | exact BindsTo.of_eq (rfl : bindArgs _ _ = pure [(_, _), (_, _), (_, _)]) | exact BindsTo.of_eq (rfl : bindArgs _ _ = pure [(_, _), (_, _), (_, _), (_, _)]) | exact BindsTo.of_eq (rfl : bindArgs _ _ = pure [(_, _), (_, _), (_, _), (_, _), (_, _)]) | exact BindsTo.of_eq rfl); (case kB => exact rfl); (case kD => decide +kernel); (case c2 => exact rfl); (case c3 => exact rfl); (case c4 => exact rfl)))
  k_with "GROUNDC" => ((intro r_g' r_L' r_h' r_tk' r_cells' r_F' r_N' r_Y' r_l1 r_B' r_X' r_T' r_lN; k_lt r_l1; k_cells r_Y'; (try simp only [List.cons_append, List.nil_append] at r_N'); (try dsimp only)))
  k_with "call ref" => ((k_here; (with_reducible show wpAny _ _ (call (Value.ref 100) [Value.ref _, Value.int _ _]) _ _ _); k_dflt (refine' take_use ?r17_B ?r17_F ?r17_X ?r17_N ?r17_T ?r17_hk ?r17_hd ?r17_hu (fun o' => ?r17_U) ?r17_hi ?r17_hJ ?r17_hb ?r17_h5 ?r17_h6 ?_; (case r17_B => k_asm); (case r17_F => k_asm); (case r17_X => k_asm); (case r17_N => k_asm); (case r17_T => k_asm); (case r17_hk => first | exact rfl | assumption); (case r17_hd => ktr_room); (case r17_hu => ktr_units); (case r17_U => k_upd); (case r17_hi => assumption); (case r17_hJ => assumption); (case r17_hb => omega); (case r17_h5 => omega); (case r17_h6 => omega)); intro r_d' r_t' r_vs' r_n' r_ns' r_h' r_tk' r_hd1' r_hd2' r_hI' r_hJ' r_F' r_N'; (try dsimp only at r_N'); (try k_sweep)))
  k_with "call ref" => ((k_here; (with_reducible show wpAny _ _ (call (Value.ref 107) [Value.ref _]) _ _ _); k_dflt (refine' costs_use ?r18_B ?r18_F ?r18_X ?r18_N ?r18_T ?r18_hk ?r18_hd ?r18_hu (fun o' => ?r18_U) ?r18_hi ?r18_hJ ?r18_hb ?_; (case r18_B => k_asm); (case r18_F => k_asm); (case r18_X => k_asm); (case r18_N => k_asm); (case r18_T => k_asm); (case r18_hk => first | exact rfl | assumption); (case r18_hd => ktr_room); (case r18_hu => ktr_units); (case r18_U => k_upd); (case r18_hi => assumption); (case r18_hJ => assumption); (case r18_hb => omega)); intro r_l' r_us' r_ms' r_k' r_vs' r_n' r_ns' r_h' r_tk' r_l1 r_hI' r_hm8' r_hm20' r_hJ'' r_hJ' r_F' r_N'; (try k_lt r_l1); (try dsimp only at r_N'); (try k_sweep)))
  k_with "call ref" => ((k_here; (with_reducible show wpAny _ _ (call (Value.ref 114) [Value.ref _, Value.ref _]) _ _ _); k_dflt (refine' latest_con ?r19_B ?r19_F ?r19_X ?r19_N ?r19_T ?r19_hk ?r19_hd ?r19_hu ?r19_hc ?r19_ht ?r19_ci ?r19_ti ?r19_b1 ?r19_b2 ?_; (case r19_B => k_asm); (case r19_F => k_asm); (case r19_X => k_asm); (case r19_N => k_asm); (case r19_T => k_asm); (case r19_hk => first | exact rfl | assumption); (case r19_hd => ktr_room); (case r19_hu => ktr_units); (case r19_hc => k_mem); (case r19_ht => k_mem); (case r19_ci => assumption); (case r19_ti => assumption); (case r19_b1 => k_extra "there"); (case r19_b2 => omega)); intro r_v' r_h' r_tk' r_hv' r_F' r_N'; (try k_sweep); k_extra "latest"))
  k_with "call ref" => ((k_here; (with_reducible show wpAny _ _ (call (Value.ref 121) [Value.ref _, Value.ref _]) _ _ _); k_dflt (refine' waiting_con ?r20_B ?r20_F ?r20_X ?r20_N ?r20_T ?r20_hk ?r20_hd ?r20_hu ?r20_hc ?r20_ht ?r20_ci ?r20_ti ?r20_b1 ?r20_b2 ?r20_b3 ?_; (case r20_B => k_asm); (case r20_F => k_asm); (case r20_X => k_asm); (case r20_N => k_asm); (case r20_T => k_asm); (case r20_hk => first | exact rfl | assumption); (case r20_hd => ktr_room); (case r20_hu => ktr_units); (case r20_hc => k_mem); (case r20_ht => k_mem); (case r20_ci => assumption); (case r20_ti => assumption); (case r20_b1 => k_extra "there"); (case r20_b2 => omega); (case r20_b3 => first | omega | k_extra "therelen")); intro r_f' r_fvs' r_nf' r_h' r_tk' r_l1 r_hI' r_F' r_N'; (try simp only [List.forall_mem_cons] at r_l1); (try k_sweep); (try k_extra "waited")))
  k_with "call ref" => ((k_here; (with_reducible show wpAny _ _ (call (Value.ref 37) [Value.ref _, Value.int _ _]) _ _ _); (try k_extra "ahead"); k_dflt (refine' at_use ?r21_B ?r21_F ?r21_X ?r21_N ?r21_T ?r21_hk ?r21_hd ?r21_hu ?r21_hx ?r21_hdx ?r21_hc (fun o' => ?r21_U) ?r21_n1 ?r21_n2 ?r21_n3 ?r21_qi ?r21_ci ?r21_b0 ?r21_b1 ?r21_b2 ?r21_b3 ?r21_b4 ?r21_b5 ?_ ?_; (case r21_B => k_asm); (case r21_F => k_asm); (case r21_X => k_asm); (case r21_N => k_asm); (case r21_T => k_asm); (case r21_hk => first | exact rfl | assumption); (case r21_hd => ktr_room); (case r21_hu => ktr_units); (case r21_hx => k_mem); (case r21_hdx => k_mem); (case r21_hc => k_mem); (case r21_U => k_upd); (case r21_n1 => omega); (case r21_n2 => omega); (case r21_n3 => omega); (case r21_qi => assumption); (case r21_ci => assumption); (case r21_b0 => omega); (case r21_b1 => omega); (case r21_b2 => first | omega | k_extra "fresh"); (case r21_b3 => first | assumption | k_extra "queue"); (case r21_b4 => first | omega | k_extra "qlen"); (case r21_b5 => omega)); k_extra "at"))
  k_with "call ref" => ((k_here; (with_reducible show wpAny _ _ (call (Value.ref 40) [Value.int _ _, Value.int _ _, Value.ref _, Value.int _ _]) _ _ _); k_dflt (refine near_new4 (by k_asm) (by k_asm) (by k_asm) (by k_asm) (by k_asm) (by first | exact rfl | assumption) (by ktr_room) (by first | ktr_units | (simp only [units_under_make]; ktr_units)) ?_); intro r_x' r_d' r_q' r_k1' r_k2' r_k3' r_k4' r_k5' r_t1' r_t2' r_t3' r_nd' r_nq' r_h' r_tk' r_l1 r_l2 r_l3 r_F' r_N'; (try k_lt r_l1); (try k_sweep)))
  k_with "call ref" => ((k_here; (with_reducible show wpAny _ _ (call (Value.ref 40) [Value.int _ _, Value.int _ _, Value.ref _]) _ _ _); k_dflt (refine near_new3 (by k_asm) (by k_asm) (by k_asm) (by k_asm) (by k_asm) (by first | exact rfl | assumption) (by ktr_room) (by first | ktr_units | (simp only [units_under_make]; ktr_units)) ?_); intro r_x' r_d' r_q' r_k1' r_k2' r_k3' r_k4' r_k5' r_t1' r_t2' r_t3' r_nd' r_nq' r_h' r_tk' r_l1 r_l2 r_l3 r_F' r_N'; (try k_lt r_l1); (try k_sweep)))
  k_with "exec For Tuple Attribute cons nil" => ((k_here; (rename Fr _ _ _ _ => r_lF'); (with_unfolding_all refine' For_turns r_lF' ?_; k_whole)))
  k_with "newTuple" => ((k_here; k_dflt (refine' newTup_L ?r42_k1 ?r42_k2 ?_; (case r42_k1 => k_asm); (case r42_k2 => k_asm); k_whole); intro r_l' r_h' r_F' r_N' r_l1; (try k_lt r_l1); (try k_sweep)))
  k_with "call builtin:list.append" => ((k_here; (with_reducible show wpAny _ _ (call (Value.builtin _) [Value.ref _, Value.ref _]) _ _ _); k_dflt (refine' append_any ?r43_k1 ?r43_k2 (fun o' => ?r43_k3) ?r43_hl ?_; (case r43_k1 => k_asm); (case r43_k2 => k_asm); (case r43_k3 => k_upd); (case r43_hl => omega); k_whole); intro r_h' r_un' r_F' r_N'; (try dsimp only at r_N'); (try k_sweep)))
  k_with "pyIter ref" => ((k_here; (with_reducible show wpAny _ _ (pyIter (Value.ref _)) (fun it s₂ => TurnsAt _ _ _ _ _ _ _ _ _ it s₂) _ _); k_extra "turns"))
  show wpAny _ _ _ _ _ _
  k_fold
  k_with "fresh" => omega
  k_with "queue" => exact near_queue hq1 (by omega) (by omega) (by omega)
  k_with "qlen" => exact near_qlen hq1 (by omega)
  k_with "at" => ((intro h8 tk8 hlt8 F8 N8; (try dsimp only at N8); (have hq8 := run_qN hq1 hlt8); (try k_sweep); (try k_fold)); rotate_left; (intro h8 tk8 t8 qs8 nq8 hge8 hq8 F8 N8; (rw [run_at hq1 (by omega) (by omega) hge8 (by omega)] at hq8 ⊢); (have hb8 := bestAt (ms := ms) hge8 (m := mx) (by omega) (by omega)); (revert hb8; (generalize (waitP ms (win f mx fi count)).headD 0 = q8); intro hb8); (have hr8 := hb8.rng); (try dsimp only at N8); (try k_sweep); (try k_fold)))
  k_steps
  all_goals ((rename Fr _ _ _ _ => fE'); (rename News _ _ _ _ => nE'); first
    | exact ret _ _ _ _ _ _ _ _ fE' nE' hfi (hq8 ▸ hqi) (.inl ⟨rfl, hlt8⟩) (by kst_same)
    | exact ret _ _ _ _ _ _ _ _ fE' nE' (by assumption) hq8 (.inr ⟨_, rfl, hb8⟩) (by kst_same))
abbrev HandS := (List Value × List Int × Nat) × List Nq
noncomputable def handL (fd : Addr) (hs : List Nf) (fx : List (Addr × Obj)) (st : HandS) : List (Addr × Obj) := (fd, listOf st.1.1.toArray st.1.2.2) :: (zipQ hs st.2 ++ fx)
theorem hand_in {α : Type} {b q p : α} {za zb fx own : List α} (hp : p ∈ b :: q :: (za ++ zb ++ (fx ++ own))) : p ∈ (b :: ((za ++ q :: zb) ++ fx)) ++ own := by
  simp only [List.mem_append, List.mem_cons] at hp ⊢
  rcases hp with h | h | (h | h) | h | h <;> simp [h]
theorem hand_out {α : Type} {b q p : α} {za zb fx own : List α} (hp : p ∈ b :: ((za ++ q :: zb) ++ fx)) : p ∈ b :: q :: (za ++ zb ++ (fx ++ own)) := by
  simp only [List.mem_append, List.mem_cons] at hp ⊢
  rcases hp with h | (h | h | h) | h <;> simp [h]
theorem off_hand {z fx own : List (Addr × Obj)} {l : List Addr} (h3 : ∀ b ∈ l, ∀ p ∈ z, p.1 ≠ b) (h4 : OwnOff fx l) (h5 : OwnOff own l) : OwnOff (z ++ (fx ++ own)) l := by
  intro p hp b hb
  rcases List.mem_append.mp hp with hp | hp
  · exact h3 b hb p hp
  rcases List.mem_append.mp hp with hp | hp
  · exact h4 p hp b hb
  · exact h5 p hp b hb
theorem hand_turns {g hp9 : Heap} {L9 : Addr} {m₀ : Str → Option Value} {Q : Flow → Shared → Prop} {x dx c pc pr kd ha fd : Addr} {len count p0 p1 p2 p3 : Int} {ms fl : List Int} {hs : List Nf} {qs : List Nq} {cvs fvs : List Value} {nd nc nk nf : Nat} {e1 e2 e3 e4 e5 e6 tc : Tok} {fx : List (Addr × Obj)}
    (B : Below (ktrTop dp un gd cn cs L a ccd cl outer) base (envX cn cs L a ccd cl :: outer) g) (X₀ : (hd.heap_39 w.params).In g) (T : Top hd.view_39 loose mean mg mb g)
    (hk : cs.kind = .function) (hdp : dp < 320) (hun : un < 3000)
    (F : Fr g L9 hp9 m₀) (f1 : m₀ (PySem.Str.ofString "found") = some (.ref fd)) (f2 : m₀ (PySem.Str.ofString "ways") = some (.ref x)) (f3 : m₀ (PySem.Str.ofString "count") = some (.int count tc))
    (N : News g L9 hp9 ((fd, listOf fvs.toArray nf) :: (zipQ hs qs ++ fx)))
    (m1 : (x, instObj 82 dx) ∈ fx) (m2 : (dx, waysDict w.params e1 e2 e3 e4 e5 e6 nd len pr c pc kd) ∈ fx) (m3 : (c, listOf cvs.toArray nc) ∈ fx) (m4 : (ha, listOf (hs.map fun k => Value.ref k.t).toArray nk) ∈ fx) (m5 : ∀ k ∈ hs, ∀ p ∈ k.fixH w.params c, p ∈ fx)
    (d1 : ∀ k ∈ hs, k.q ≠ fd) (d2 : OwnOff fx [fd]) (d4 : ∀ k ∈ hs, OwnOff fx [k.q]) (d5 : (hs.map Nf.q).Nodup)
    (hci : IntsAre cvs ms) (hfi : IntsAre fvs fl) (hms : 0 ≤ count ∧ count ≤ 20 ∧ count < ms.length ∧ (ms.length : Int) ≤ 21) (hln : hs.length ≤ 3) (ho : ∀ k ∈ hs, HOk len p1 p2 p3 k) (hq : QAll ms (count - 1) hs qs) (hI : FInv len p0 p1 p2 p3 ms count hs 0 fl) (hl : fl.length ≤ 1)
    (done : ∀ fvs fl nf qs' (u : Str → Option Value) h tk, IntsAre fvs fl → QAll ms count hs qs' → FInv len p0 p1 p2 p3 ms count hs hs.length fl → fl.length ≤ 4 →
      Fr g L9 h (fun y => if y = PySem.Str.ofString "" then u y else if [PySem.Str.ofString "nearest", PySem.Str.ofString "more", PySem.Str.ofString "place"].contains y then u y else m₀ y) → News g L9 h ((fd, listOf fvs.toArray nf) :: (zipQ hs qs' ++ fx)) → Q .next { s with heap := h, toks := tk })
    (hse : s.heap = hp9) :
    wpAny (model PySem.Challenge.rw_tk0114_01.row.prog w) ((ktrTop dp un gd cn cs L a ccd cl outer).deeper (envOf (PySem.Str.ofString "_law_runs_right") (rrFor w.params).1.1 L9 147 (rrFor w.params).1.2.1)) (pyIter (.ref ha)) (fun it s₂ => TurnsAt PySem.Challenge.rw_tk0114_01.row.prog w ((ktrTop dp un gd cn cs L a ccd cl outer).deeper (envOf (PySem.Str.ofString "_law_runs_right") (rrFor w.params).1.1 L9 147 (rrFor w.params).1.2.1)) g (envOf (PySem.Str.ofString "_law_runs_right") (rrFor w.params).1.1 L9 147 (rrFor w.params).1.2.1) (handFor w.params).1.1 (handFor w.params).1.2 Q (fun _ _ => False) it s₂) (fun _ _ => False) s := by
  subst hse
  refine list_turns (handL fd hs fx) (fun _ => []) (fun st => IntsAre st.1.1 st.1.2.1) [PySem.Str.ofString "nearest", PySem.Str.ofString "more", PySem.Str.ofString "place"] (fun i st => FInv len p0 p1 p2 p3 ms count hs i st.1.2.1 ∧ st.1.2.1.length ≤ 1 + i ∧ QAt ms count i hs st.2) ((fvs, fl, nf), qs)
    rfl (fun _ => .tail _ (List.mem_append_right _ m4)) F N hfi (List.forall_mem_nil _) ⟨hI, hl, hq.start⟩ ?_ ?_
  · intro st i v u h tk own hv hoff i0 ⟨i1, i2, i3⟩ F' N'
    rw [List.getElem?_map] at hv
    obtain ⟨k, hki, rfl⟩ := Option.map_eq_some_iff.mp hv
    obtain ⟨q, za, zb, q1, q2, q3, q4⟩ := QAt.turn d5 hki i3
    have hkm : k ∈ hs := List.mem_of_getElem? hki
    have hil : i < hs.length := by obtain ⟨h1, _⟩ := List.getElem?_eq_some_iff.mp hki; exact h1
    have hfix := m5 k hkm
    have hRf : ∀ p ∈ fx, p ∈ za ++ zb ++ (fx ++ own) := fun p hp => List.mem_append_right _ (List.mem_append_left _ hp)
    have hsub : ∀ y ∈ [fd, k.q], y ∈ (handL fd hs fx st).map (·.1) := by
      refine List.forall_mem_cons.mpr ⟨.head _, List.forall_mem_cons.mpr ⟨List.mem_map_of_mem (f := (·.1)) (.tail _ (List.mem_append_left _ (by rw [q2]; exact List.mem_append_right _ (.head _))) : k.que q ∈ handL fd hs fx st), List.forall_mem_nil _⟩⟩
    have hzf : ∀ p ∈ za ++ zb, p.1 ≠ fd := fun p hp => by
      refine zipQ_off (qs := st.2) d1 p ?_
      rw [q2]
      exact (List.mem_append.mp hp).elim (fun h => List.mem_append_left _ h) fun h => List.mem_append_right _ (.tail _ h)
    have N2 : News g L9 h ((fd, listOf st.1.1.toArray st.1.2.2) :: (k.q, listOf q.qv.toArray q.nq) :: (za ++ zb ++ (fx ++ own))) := fun p hp => N' p (by
      unfold handL
      rw [q2]
      exact hand_in hp)
    refine hand_turn (s := s) (Rf := FreePost g L9 (handL fd hs fx) (fun _ => []) (fun st => IntsAre st.1.1 st.1.2.1) (PySem.Str.ofString "") [PySem.Str.ofString "nearest", PySem.Str.ofString "more", PySem.Str.ofString "place"] m₀ (fun st => FInv len p0 p1 p2 p3 ms count hs (i + 1) st.1.2.1 ∧ st.1.2.1.length ≤ 1 + (i + 1) ∧ QAt ms count (i + 1) hs st.2) own { s with heap := h, toks := tk } Q)
      B X₀ T hk hdp hun F' f1 f2 f3 N2 (hRf _ m1) (hRf _ m2) (hRf _ m3) (hRf _ (hfix _ (.head _))) (hRf _ (hfix _ (.tail _ (.head _)))) (hRf _ (hfix _ (.tail _ (.tail _ (.head _)))))
      (off_hand (List.forall_mem_cons.mpr ⟨hzf, List.forall_mem_cons.mpr ⟨q3, List.forall_mem_nil _⟩⟩) (fun p hp => List.forall_mem_cons.mpr ⟨d2 p hp _ (.head _), d4 k hkm p hp⟩) (off_sub hoff hsub)) (fun e => d1 k hkm e.symm) (fun e => d4 k hkm _ (hfix _ (.tail _ (.head _))) _ (.head _) e.symm) (fun e => d4 k hkm _ (hfix _ (.tail _ (.tail _ (.head _)))) _ (.head _) e.symm) (fun e => d4 k hkm _ m3 _ (.head _) e.symm)
      hci i0 q1.1 q1.2 hms (by omega) (ho k hkm).num ?_
    intro h' tk' m' fvs' fl' nf' qv' nq' F3 N3 g1 g2 g3 g7
    obtain ⟨qs', z1, z2⟩ := q4 ⟨qv', waitP ms (win k.f k.m k.fi count), nq'⟩ ⟨g2, rfl⟩
    have hled : handL fd hs fx ((fvs', fl', nf'), qs') = (fd, listOf fvs'.toArray nf') :: ((za ++ k.que ⟨qv', waitP ms (win k.f k.m k.fi count), nq'⟩ :: zb) ++ fx) := by unfold handL; rw [z1]
    have hlen : fl'.length ≤ 1 + (i + 1) := by
      rcases g3 with ⟨rfl, _⟩ | ⟨_, rfl, _⟩
      · omega
      · rw [List.length_append, List.length_singleton]; omega
    refine free_endO ((fvs', fl', nf'), qs') F3 N3 (fun p hp => hand_out (hled ▸ hp)) (fun p hp => .tail _ (.tail _ (List.mem_append_right _ (List.mem_append_right _ hp)))) (off_hi hoff ?_) g1 (List.forall_mem_nil _) (fun z h1 h2 h3 => ?_) ⟨i1.step hki (ho k hkm) g3, hlen, z2⟩
    · unfold handL
      rw [z1, q2]
      simp only [List.map_cons, List.map_append]
      rfl
    · rw [g7 z h1 h2 h3]
      show (if z = PySem.Str.ofString "" then u z else if [PySem.Str.ofString "nearest", PySem.Str.ofString "more", PySem.Str.ofString "place"].contains z then u z else m₀ z) = m₀ z
      rw [if_neg h1, h3]
      rfl
  · intro st u h tk i0 ⟨i1, i2, i3⟩ F' N'
    rw [List.length_map] at i1 i2 i3
    exact done st.1.1 st.1.2.1 st.1.2.2 st.2 u h tk i0 i3.fin i1 (by omega) F' N'
end

end
section
noncomputable def cntL (hs : List Nf) (fx : List (Addr × Obj)) (qs : List Nq) : List (Addr × Obj) := zipQ hs qs ++ fx
theorem kinds_nil {ms : List Int} {k : Nf} {nq : Nat} (h : 0 ≤ k.fi) (h2 : 0 ≤ k.f) : QOk ms (0 - 1) k ⟨[], [], nq⟩ := by
  refine ⟨.nil, ?_⟩
  rw [win_nil (by omega)]; rfl
section
variable {prog : Program} {w : World} {A : Around} {E : Value → Shared → Prop} {Q : Flow → Shared → Prop} {s : Shared} {env : Env} {h₀ : Heap} {body : List Stmt}
theorem cnt_run {y : Str} {r : Addr} {b₀ : Int} {t₀ u₀ v₀ : Tok} {n : Nat} {hs : List Nf} {qs0 : List Nq} {fx nl : List (Addr × Obj)} {m₀ : Str → Option Value} {LL : Addr} {hp9 : Heap} {ms : List Int}
    (F9 : Fr h₀ LL hp9 m₀) (N9 : News h₀ LL hp9 nl) (hsub : ∀ p ∈ zipQ hs qs0 ++ fx, p ∈ nl) (hr9 : IsRange hp9 r 0 b₀ 1 t₀ u₀ v₀) (hLL : env.locals = LL) (hhp : s.heap = hp9) (hh : A.handled = none) (hsmall : Builtin.Range.small 0 b₀ 1 = true) (hn : Builtin.Range.rangeSize 0 b₀ 1 = (n : Int)) (hq0 : QAll ms (0 - 1) hs qs0)
    (turn : ∀ qs (i : Nat) t (u : Str → Option Value) h tk own, i < n → OwnOff own ((cntL hs fx qs).map (·.1)) → QAll ms (0 + (i : Int) - 1) hs qs → Fr h₀ env.locals h (fun z => if z = y then some (.int (0 + (i : Int)) t) else if [PySem.Str.ofString "", PySem.Str.ofString "due", PySem.Str.ofString "found", PySem.Str.ofString "nearest", PySem.Str.ofString "more", PySem.Str.ofString "place"].contains z then u z else m₀ z) → News h₀ env.locals h (cntL hs fx qs ++ own) →
      wpAny (model prog w) A (execs body env) (FreePost h₀ env.locals (cntL hs fx) (fun _ => []) (fun _ => True) y [PySem.Str.ofString "", PySem.Str.ofString "due", PySem.Str.ofString "found", PySem.Str.ofString "nearest", PySem.Str.ofString "more", PySem.Str.ofString "place"] m₀ (fun qs => QAll ms (0 + ((i + 1 : Nat) : Int) - 1) hs qs) own { s with heap := h, toks := tk } Q) E { s with heap := h, toks := tk })
    (done : ∀ qs (u : Str → Option Value) h tk, Fr h₀ env.locals h (fun z => if z = y then u z else if [PySem.Str.ofString "", PySem.Str.ofString "due", PySem.Str.ofString "found", PySem.Str.ofString "nearest", PySem.Str.ofString "more", PySem.Str.ofString "place"].contains z then u z else m₀ z) → News h₀ env.locals h (cntL hs fx qs) → Q .next { s with heap := h, toks := tk }) :
    wpAny (model prog w) A (pyIter (.ref r)) (fun it s₂ => LoopAtV prog w A h₀ env y body Q E it s₂) E s := by
  subst hLL
  subst hhp
  exact free_range (cntL hs fx) (fun _ => []) (fun _ => True) [PySem.Str.ofString "", PySem.Str.ofString "due", PySem.Str.ofString "found", PySem.Str.ofString "nearest", PySem.Str.ofString "more", PySem.Str.ofString "place"] (fun i qs => QAll ms (0 + (i : Int) - 1) hs qs) qs0 hh hr9 hsmall hn F9 (fun p hp => N9 p (hsub p hp)) trivial (List.forall_mem_nil _) (by simpa using hq0)
    (fun qs i t u h tk own hi hoff _ hp F' N' => turn qs i t u h tk own hi hoff hp F' N') (fun qs u h tk _ _ F' N' => done qs u h tk F' N')
end

end
section
theorem sub_both {α : Type} {x : α} {l l' : List α} (h : ∀ p ∈ l, p ∈ l') : ∀ p ∈ x :: l, p ∈ x :: l' := List.forall_mem_cons.mpr ⟨.head _, fun p hp => .tail _ (h p hp)⟩
theorem sub_skip {α : Type} {y : α} {l l' : List α} (h : ∀ p ∈ l, p ∈ l') : ∀ p ∈ l, p ∈ y :: l' := fun p hp => .tail _ (h p hp)
theorem off_app {a b : List (Addr × Obj)} {l : List Addr} (h1 : OwnOff a l) (h2 : OwnOff b l) : OwnOff (a ++ b) l := fun p hp => (List.mem_append.mp hp).elim (h1 p) (h2 p)
theorem off_cons {a : List (Addr × Obj)} {x : Addr} {l : List Addr} (h1 : AllLt x a) (h2 : OwnOff a l) : OwnOff a (x :: l) := fun p hp q hq => by
  rcases List.mem_cons.mp hq with rfl | hq
  · exact tbn_neAll h1 p hp
  · exact h2 p hp q hq
theorem rr_frame {m₀ : Str → Option Value} {v1 v2 v3 v4 : Value} (h1 : m₀ (PySem.Str.ofString "length") = some v1) (h2 : m₀ (PySem.Str.ofString "price") = some v2) (h3 : m₀ (PySem.Str.ofString "ways") = some v3) (h4 : m₀ (PySem.Str.ofString "hands") = some v4) :
    ∃ u₀ : Str → Option Value, m₀ = fun z => if z = PySem.Str.ofString "length" then some v1 else if z = PySem.Str.ofString "price" then some v2 else if z = PySem.Str.ofString "ways" then some v3 else if z = PySem.Str.ofString "hands" then some v4 else u₀ z := by
  refine ⟨m₀, funext fun z => ?_⟩
  by_cases a1 : z = PySem.Str.ofString "length"
  · rw [if_pos a1, a1, h1]
  by_cases a2 : z = PySem.Str.ofString "price"
  · rw [if_neg a1, if_pos a2, a2, h2]
  by_cases a3 : z = PySem.Str.ofString "ways"
  · rw [if_neg a1, if_neg a2, if_pos a3, a3, h3]
  by_cases a4 : z = PySem.Str.ofString "hands"
  · rw [if_neg a1, if_neg a2, if_neg a3, if_pos a4, a4, h4]
  rw [if_neg a1, if_neg a2, if_neg a3, if_neg a4]
/-- what found begins with -/
theorem news_nil {h₀ h : Heap} {L : Addr} {m : Str → Option Value} (_F : Fr h₀ L h m) : News h₀ L h [] := fun _ hp => nomatch hp
theorem news_tail {h₀ h : Heap} {L : Addr} {x : Addr × Obj} {l : List (Addr × Obj)} (N : News h₀ L h (x :: l)) : News h₀ L h l := fun p hp => N p (.tail _ hp)
theorem cnt_in {hs : List Nf} {fx own : List (Addr × Obj)} {qs : List Nq} {p : Addr × Obj} (hp : p ∈ cntL hs fx qs) : p ∈ zipQ hs qs ++ (fx ++ own) := by
  rw [← List.append_assoc]; exact List.mem_append_left _ hp
theorem off_all {d : Addr} {l : List (Addr × Obj)} (h : AllLt d l) : OwnOff l [d] := fun p hp b hb => by
  rw [List.mem_singleton.mp hb]
  exact Nat.ne_of_lt (allLt_all h p hp)
theorem off_right {a b : List (Addr × Obj)} {l : List Addr} (h : OwnOff (a ++ b) l) : OwnOff b l := fun p hp => h p (List.mem_append_right _ hp)
theorem zipQ_ne {ms : List Int} {n : Int} {hs : List Nf} {qs : List Nq} {fx : List (Addr × Obj)} {d : Addr} (hq : QAll ms n hs qs) (h : OwnOff (zipQ hs qs ++ fx) [d]) : ∀ k ∈ hs, k.q ≠ d := fun k hk => by
  obtain ⟨o, ho⟩ := zipQ_has hq hk
  exact h _ (List.mem_append_left _ ho) _ (.head _)
theorem off_cnt {own fx : List (Addr × Obj)} {hs : List Nf} {qs : List Nq} {ms : List Int} {n : Int} (hoff : OwnOff own ((cntL hs fx qs).map (·.1))) (hq : QAll ms n hs qs) (d4 : ∀ k ∈ hs, OwnOff fx [k.q]) : ∀ k ∈ hs, OwnOff (fx ++ own) [k.q] := fun k hk => by
  refine off_app (d4 k hk) (off_sub hoff fun y hy => ?_)
  rw [List.mem_singleton.mp hy]
  obtain ⟨o, ho⟩ := zipQ_has hq hk
  exact List.mem_map_of_mem (f := (·.1)) (List.mem_append_left fx ho)
theorem cntL_map {ms ms' : List Int} {n n' : Int} {hs : List Nf} {qs qs' : List Nq} {fx : List (Addr × Obj)} (h : QAll ms n hs qs) (h' : QAll ms' n' hs qs') : (cntL hs fx qs').map (·.1) = (cntL hs fx qs).map (·.1) := by
  unfold cntL
  rw [List.map_append, List.map_append, zipQ_map h, zipQ_map h']
local macro_rules | `(tactic| k_mem) => `(tactic| assumption)
section
variable {w : World} {A₀ : Around} {s : Shared} {base h₀ : Heap} {outer : List Env} {L : Addr} {m mg mb : Str → Option Value} {news : List (Addr × Obj)} {loose : List Str} {mean : ExcName → Option Value}
  {dp un : Nat} {gd : Option (List Code)} {cn : Str} {cs : Scope} {a : Addr} {ccd : Value} {cl : List (Str × Addr)} {Q : Flow → Shared → Prop}
theorem rr_turn {g hp9 : Heap} {L9 : Addr} {tk : Nat} {m₀ u : Str → Option Value} {x dx c pc pr kd price ha : Addr} {len count cnt1 many p0 p1 p2 p3 : Int} {cvs pcs prs : List Value} {ms : List Int} {S : List (Int × Int)} {hs : List Nf} {qs : List Nq} {nc npc npr nk nd : Nat} {tl tc e1 e2 e3 e4 e5 e6 : Tok} {kl P own fx : List (Addr × Obj)}
    (B : Below (ktrTop dp un gd cn cs L a ccd cl outer) base (envX cn cs L a ccd cl :: outer) g) (X₀ : (hd.heap_39 w.params).In g) (T : Top hd.view_39 loose mean mg mb g)
    (hk : cs.kind = .function) (hdp : dp < 320) (hun : un < 3000)
    (hm1 : m₀ (PySem.Str.ofString "length") = some (.int len tl)) (hm2 : m₀ (PySem.Str.ofString "price") = some (.ref price)) (hm3 : m₀ (PySem.Str.ofString "ways") = some (.ref x)) (hm4 : m₀ (PySem.Str.ofString "hands") = some (.ref ha))
    (hcv : IntsAre cvs ms) (hRo : RunsOk w.params len p0 p1 p2 p3 pr x dx c pc kd ms S pcs kl P many) (hmany : 0 ≤ many ∧ many ≤ 20) (hpi : IntsAre prs [p0, p1, p2, p3])
    (hp0 : 0 ≤ p0 ∧ p0 ≤ 40) (hp1 : 0 ≤ p1 ∧ p1 ≤ 40) (hp2 : 0 ≤ p2 ∧ p2 ≤ 40) (hp3 : 0 ≤ p3 ∧ p3 ≤ 40)
    (m1 : (x, instObj 82 dx) ∈ fx) (m2 : (dx, waysDict w.params e1 e2 e3 e4 e5 e6 nd len pr c pc kd) ∈ fx) (m3 : (c, listOf cvs.toArray nc) ∈ fx) (m6 : (pc, listOf (Value.none :: pcs).toArray npc) ∈ fx) (m7 : (price, listOf prs.toArray npr) ∈ fx)
    (m4 : (ha, listOf (hs.map fun k => Value.ref k.t).toArray nk) ∈ fx) (m5 : ∀ k ∈ hs, ∀ p ∈ k.fixH w.params c, p ∈ fx) (mP : ∀ p ∈ P, p ∈ fx)
    (d4 : ∀ k ∈ hs, OwnOff fx [k.q]) (d5 : (hs.map Nf.q).Nodup) (ho : HsOk len p1 p2 p3 hs) (hln : hs.length ≤ 3)
    (hc : 0 ≤ count ∧ count ≤ many) (hc1 : count = cnt1) (hoff : OwnOff own ((cntL hs fx qs).map (·.1))) (hq : QAll ms (count - 1) hs qs)
    (F : Fr g L9 hp9 (fun z => if z = PySem.Str.ofString "count" then some (.int count tc) else if [PySem.Str.ofString "", PySem.Str.ofString "due", PySem.Str.ofString "found", PySem.Str.ofString "nearest", PySem.Str.ofString "more", PySem.Str.ofString "place"].contains z then u z else m₀ z)) (N : News g L9 hp9 (cntL hs fx qs ++ own)) :
    wpAny (model PySem.Challenge.rw_tk0114_01.row.prog w) ((ktrTop dp un gd cn cs L a ccd cl outer).deeper (envOf (PySem.Str.ofString "_law_runs_right") (rrFor w.params).1.1 L9 147 (rrFor w.params).1.2.1)) (execs (rrFor w.params).1.2.2 (envOf (PySem.Str.ofString "_law_runs_right") (rrFor w.params).1.1 L9 147 (rrFor w.params).1.2.1)) (FreePost g L9 (cntL hs fx) (fun _ => []) (fun _ => True) (PySem.Str.ofString "count") [PySem.Str.ofString "", PySem.Str.ofString "due", PySem.Str.ofString "found", PySem.Str.ofString "nearest", PySem.Str.ofString "more", PySem.Str.ofString "place"] m₀ (fun qs => QAll ms cnt1 hs qs) own { s with heap := hp9, toks := tk } Q) (fun _ _ => False) { s with heap := hp9, toks := tk } := by
  subst hc1
  obtain ⟨u₀, rfl⟩ := rr_frame hm1 hm2 hm3 hm4
  clear hm1 hm2 hm3 hm4
  have hlen9 := hRo.1
  have hAL := hRo.2.2.2.1
  have hlp := hRo.2.2.2.2.2.2.2.2.len
  have d4' := off_cnt hoff hq d4
  have hfr : ∀ p ∈ fx, p ∈ fx ++ own := fun p hp => List.mem_append_left _ hp
  have N2 : News g L9 hp9 (zipQ hs qs ++ (fx ++ own)) := fun p hp => N p (by unfold cntL; rw [List.append_assoc]; exact hp)
  have K : ∀ qs', ∀ p ∈ fx, p ∈ zipQ hs qs' ++ (fx ++ own) := fun qs' p hp => List.mem_append_right _ (hfr p hp)
  have M1 := K qs _ m1
  have M2 := K qs _ m2
  have M3 := K qs _ m3
  have M7 := K qs _ m7
  unfold waysDict at M2
  clear N
  generalize hZ : zipQ hs qs ++ (fx ++ own) = Z at N2 M1 M2 M3 M7
  dsimp only [rrFor]
  walk_at "FILL"
  k_with "ENTER" => (k_dflt (refine' code_sub ?kPost ?k1 ?k2 ?k3 ?k4 ?k5 ?kA ?kF ?kK ?k6 ?k7 ?k8 ?k9 ?kB ?kS ?kBody ?kRet ?c5 ?c2 ?c3 ?c4; (case kA => exact rfl); (case kF => exact rfl); (case kK => k_asm); (case k1 => k_asm); (case k2 => k_asm); (case k3 => k_asm); (case k4 => k_asm); (case k5 => k_asm); (case k6 => k_is); (case k7 => k_is); (case k8 => ktr_room); (case k9 => first | exact BindsTo.of_eq (rfl : bindArgs _ _ = pure [(_, _)]) | exact BindsTo.of_eq (rfl : bindArgs _ _ = pure [(_, _), (_, _)]) | exact BindsTo.of_eq (rfl : bindArgs _ _ = pure [(_, _), (_, _), (_, _)]) | exact BindsTo.of_eq (rfl : bindArgs _ _ = pure [(_, _), (_, _), (_, _), (_, _)]) | exact BindsTo.of_eq (rfl : bindArgs _ _ = pure [(_, _), (_, _), (_, _), (_, _), (_, _)]) | exact BindsTo.of_eq rfl); (case c5 => decide); (case kB => exact locs rfl); (case c2 => exact rfl); (case c3 => exact rfl); (case c4 => exact rfl)))
  k_with "RetP" => (((try dsimp only [flv]); refine RetP.owed (by k_asm) (by k_asm) ?_))
  k_with "newList" => ((k_here; k_dflt (refine' newList_L ?r3_k1 ?r3_k2 ?_; (case r3_k1 => k_asm); (case r3_k2 => k_asm); k_whole); intro r_l' r_h' r_F' r_N' r_l1; (try k_lt r_l1); (try k_sweep)))
  k_with "call builtin:list.append" => ((k_here; (with_reducible show wpAny _ _ (call (Value.builtin _) [Value.ref _, Value.int _ _]) _ _ _); k_dflt (refine' append_ints ?r4_k1 ?r4_k2 (fun o' => ?r4_k3) ?r4_hi ?r4_hl ?_; (case r4_k1 => k_asm); (case r4_k2 => k_asm); (case r4_k3 => k_upd); (case r4_hi => assumption); (case r4_hl => first | omega | (simp only [List.length_append, List.length_cons, List.length_nil] at *; omega)); k_whole); intro r_h' r_us' r_un' r_hI' r_F' r_N'; (try dsimp only at r_N'); (try k_sweep)))
  k_with "FreePost" => ((dsimp only [FreePost]))
  k_with "NOITER" => ((repeat' (first | exact List.forall_mem_nil _ | (refine List.forall_mem_cons.mpr ⟨?_, ?_⟩) | exact noIter_list _ _ | exact noIter_inst _ _ | exact noIter_dict _ _ | exact noIter_tup _ _ | exact noIter_cell (by assumption))))
  k_with "OWNIN" => ((intro r_p r_hp; k_ownIn))
  k_with "subscriptTail" => ((k_here; (with_reducible show wpAny _ _ (subscriptTail _ _ (Value.ref _) (Value.int _ _)) _ _ _); k_dflt (refine' item_bnd ?r8_N ?r8_hm ?r8_hi ?r8_h0 ?r8_h1 ?r8_h2 ?_; (case r8_N => k_asm); (case r8_hm => k_mem); (case r8_hi => assumption); (case r8_h0 => first | omega | k_extra "low"); (case r8_h1 => first | omega | k_extra "high"); (case r8_h2 => omega)); intro r_t'))
  k_with "ENTERC" => (k_dflt (refine' code_subC ?kPost ?k1 ?k2 ?k3 ?k4 ?k5 ?kA ?kF ?kK ?k6 ?k7 ?k8 ?k9 ?kB ?kD ?kS ?kBody ?kRet ?c2 ?c3 ?c4; (case kA => exact rfl); (case kF => exact rfl); (case kK => k_asm); (case k1 => k_asm); (case k2 => k_asm); (case k3 => k_asm); (case k4 => k_asm); (case k5 => k_asm); (case k6 => k_is); (case k7 => k_is); (case k8 => ktr_room); (case k9 => first | exact BindsTo.of_eq (rfl : bindArgs _ _ = pure [(_, _)]) | exact BindsTo.of_eq (rfl : bindArgs _ _ = pure [(_, _), (_, _)]) | exact BindsTo.of_eq (rfl : bindArgs _ _ = pure [(_, _), (_, _), (_, _)]) | exact BindsTo.of_eq (rfl : bindArgs _ _ = pure [(_, _), (_, _), (_, _), (_, _)]) | exact BindsTo.of_eq (rfl : bindArgs _ _ = pure [(_, _), (_, _), (_, _), (_, _), (_, _)]) | exact BindsTo.of_eq rfl); (case kB => exact rfl); (case kD => decide +kernel); (case c2 => exact rfl); (case c3 => exact rfl); (case c4 => exact rfl)))
  k_with "GROUNDC" => ((intro r_g' r_L' r_h' r_tk' r_cells' r_F' r_N' r_Y' r_l1 r_B' r_X' r_T' r_lN; k_lt r_l1; k_cells r_Y'; (try simp only [List.cons_append, List.nil_append] at r_N'); (try dsimp only)))
  k_with "call ref" => ((k_here; (with_reducible show wpAny _ _ (call (Value.ref 100) [Value.ref _, Value.int _ _]) _ _ _); k_dflt (refine' take_use ?r17_B ?r17_F ?r17_X ?r17_N ?r17_T ?r17_hk ?r17_hd ?r17_hu (fun o' => ?r17_U) ?r17_hi ?r17_hJ ?r17_hb ?r17_h5 ?r17_h6 ?_; (case r17_B => k_asm); (case r17_F => k_asm); (case r17_X => k_asm); (case r17_N => k_asm); (case r17_T => k_asm); (case r17_hk => first | exact rfl | assumption); (case r17_hd => ktr_room); (case r17_hu => ktr_units); (case r17_U => k_upd); (case r17_hi => assumption); (case r17_hJ => assumption); (case r17_hb => omega); (case r17_h5 => omega); (case r17_h6 => omega)); intro r_d' r_t' r_vs' r_n' r_ns' r_h' r_tk' r_hd1' r_hd2' r_hI' r_hJ' r_F' r_N'; (try dsimp only at r_N'); (try k_sweep)))
  k_with "call ref" => ((k_here; (with_reducible show wpAny _ _ (call (Value.ref 107) [Value.ref _]) _ _ _); k_dflt (refine' costs_use ?r18_B ?r18_F ?r18_X ?r18_N ?r18_T ?r18_hk ?r18_hd ?r18_hu (fun o' => ?r18_U) ?r18_hi ?r18_hJ ?r18_hb ?_; (case r18_B => k_asm); (case r18_F => k_asm); (case r18_X => k_asm); (case r18_N => k_asm); (case r18_T => k_asm); (case r18_hk => first | exact rfl | assumption); (case r18_hd => ktr_room); (case r18_hu => ktr_units); (case r18_U => k_upd); (case r18_hi => assumption); (case r18_hJ => assumption); (case r18_hb => omega)); intro r_l' r_us' r_ms' r_k' r_vs' r_n' r_ns' r_h' r_tk' r_l1 r_hI' r_hm8' r_hm20' r_hJ'' r_hJ' r_F' r_N'; (try k_lt r_l1); (try dsimp only at r_N'); (try k_sweep)))
  k_with "call ref" => ((k_here; (with_reducible show wpAny _ _ (call (Value.ref 114) [Value.ref _, Value.ref _]) _ _ _); k_dflt (refine' latest_con ?r19_B ?r19_F ?r19_X ?r19_N ?r19_T ?r19_hk ?r19_hd ?r19_hu ?r19_hc ?r19_ht ?r19_ci ?r19_ti ?r19_b1 ?r19_b2 ?_; (case r19_B => k_asm); (case r19_F => k_asm); (case r19_X => k_asm); (case r19_N => k_asm); (case r19_T => k_asm); (case r19_hk => first | exact rfl | assumption); (case r19_hd => ktr_room); (case r19_hu => ktr_units); (case r19_hc => k_mem); (case r19_ht => k_mem); (case r19_ci => assumption); (case r19_ti => assumption); (case r19_b1 => k_extra "there"); (case r19_b2 => omega)); intro r_v' r_h' r_tk' r_hv' r_F' r_N'; (try k_sweep); k_extra "latest"))
  k_with "call ref" => ((k_here; (with_reducible show wpAny _ _ (call (Value.ref 121) [Value.ref _, Value.ref _]) _ _ _); k_dflt (refine' waiting_con ?r20_B ?r20_F ?r20_X ?r20_N ?r20_T ?r20_hk ?r20_hd ?r20_hu ?r20_hc ?r20_ht ?r20_ci ?r20_ti ?r20_b1 ?r20_b2 ?r20_b3 ?_; (case r20_B => k_asm); (case r20_F => k_asm); (case r20_X => k_asm); (case r20_N => k_asm); (case r20_T => k_asm); (case r20_hk => first | exact rfl | assumption); (case r20_hd => ktr_room); (case r20_hu => ktr_units); (case r20_hc => k_mem); (case r20_ht => k_mem); (case r20_ci => assumption); (case r20_ti => assumption); (case r20_b1 => k_extra "there"); (case r20_b2 => omega); (case r20_b3 => first | omega | k_extra "therelen")); intro r_f' r_fvs' r_nf' r_h' r_tk' r_l1 r_hI' r_F' r_N'; (try simp only [List.forall_mem_cons] at r_l1); (try k_sweep); (try k_extra "waited")))
  k_with "call ref" => ((k_here; (with_reducible show wpAny _ _ (call (Value.ref 37) [Value.ref _, Value.int _ _]) _ _ _); (try k_extra "ahead"); k_dflt (refine' at_use ?r21_B ?r21_F ?r21_X ?r21_N ?r21_T ?r21_hk ?r21_hd ?r21_hu ?r21_hx ?r21_hdx ?r21_hc (fun o' => ?r21_U) ?r21_n1 ?r21_n2 ?r21_n3 ?r21_qi ?r21_ci ?r21_b0 ?r21_b1 ?r21_b2 ?r21_b3 ?r21_b4 ?r21_b5 ?_ ?_; (case r21_B => k_asm); (case r21_F => k_asm); (case r21_X => k_asm); (case r21_N => k_asm); (case r21_T => k_asm); (case r21_hk => first | exact rfl | assumption); (case r21_hd => ktr_room); (case r21_hu => ktr_units); (case r21_hx => k_mem); (case r21_hdx => k_mem); (case r21_hc => k_mem); (case r21_U => k_upd); (case r21_n1 => omega); (case r21_n2 => omega); (case r21_n3 => omega); (case r21_qi => assumption); (case r21_ci => assumption); (case r21_b0 => omega); (case r21_b1 => omega); (case r21_b2 => first | omega | k_extra "fresh"); (case r21_b3 => first | assumption | k_extra "queue"); (case r21_b4 => first | omega | k_extra "qlen"); (case r21_b5 => omega)); k_extra "at"))
  k_with "call ref" => ((k_here; (with_reducible show wpAny _ _ (call (Value.ref 40) [Value.int _ _, Value.int _ _, Value.ref _, Value.int _ _]) _ _ _); k_dflt (refine near_new4 (by k_asm) (by k_asm) (by k_asm) (by k_asm) (by k_asm) (by first | exact rfl | assumption) (by ktr_room) (by first | ktr_units | (simp only [units_under_make]; ktr_units)) ?_); intro r_x' r_d' r_q' r_k1' r_k2' r_k3' r_k4' r_k5' r_t1' r_t2' r_t3' r_nd' r_nq' r_h' r_tk' r_l1 r_l2 r_l3 r_F' r_N'; (try k_lt r_l1); (try k_sweep)))
  k_with "call ref" => ((k_here; (with_reducible show wpAny _ _ (call (Value.ref 40) [Value.int _ _, Value.int _ _, Value.ref _]) _ _ _); k_dflt (refine near_new3 (by k_asm) (by k_asm) (by k_asm) (by k_asm) (by k_asm) (by first | exact rfl | assumption) (by ktr_room) (by first | ktr_units | (simp only [units_under_make]; ktr_units)) ?_); intro r_x' r_d' r_q' r_k1' r_k2' r_k3' r_k4' r_k5' r_t1' r_t2' r_t3' r_nd' r_nq' r_h' r_tk' r_l1 r_l2 r_l3 r_F' r_N'; (try k_lt r_l1); (try k_sweep)))
  k_with "exec For Tuple Attribute cons nil" => ((k_here; (rename Fr _ _ _ _ => r_lF'); (with_unfolding_all refine' For_turns r_lF' ?_; k_whole)))
  k_with "newTuple" => ((k_here; k_dflt (refine' newTup_L ?r42_k1 ?r42_k2 ?_; (case r42_k1 => k_asm); (case r42_k2 => k_asm); k_whole); intro r_l' r_h' r_F' r_N' r_l1; (try k_lt r_l1); (try k_sweep)))
  k_with "call builtin:list.append" => ((k_here; (with_reducible show wpAny _ _ (call (Value.builtin _) [Value.ref _, Value.ref _]) _ _ _); k_dflt (refine' append_any ?r43_k1 ?r43_k2 (fun o' => ?r43_k3) ?r43_hl ?_; (case r43_k1 => k_asm); (case r43_k2 => k_asm); (case r43_k3 => k_upd); (case r43_hl => omega); k_whole); intro r_h' r_un' r_F' r_N'; (try dsimp only at r_N'); (try k_sweep)))
  k_with "pyIter ref" => ((k_here; (with_reducible show wpAny _ _ (pyIter (Value.ref _)) (fun it s₂ => TurnsAt _ _ _ _ _ _ _ _ _ it s₂) _ _); k_extra "turns"))
  k_with "call ref" => ((k_here; (with_reducible show wpAny _ _ (call (Value.ref 133) [Value.int _ _, Value.ref _, Value.int _ _]) _ _ _); k_extra "fewest"))
  k_with "call ref" => ((k_here; (with_reducible show wpAny _ _ (call (Value.ref 72) [Value.ref _, Value.int _ _]) _ _ _); k_extra "told"))
  k_with "call ref" => ((k_here; (with_reducible show wpAny _ _ (call (Value.ref 140) [Value.ref _, Value.int _ _, Value.ref _, Value.int _ _, Value.int _ _]) _ _ _); k_extra "tright"))
  k_with "subscriptTail Name Constant ref int" => ((k_here; (with_reducible show wpAny _ _ (subscriptTail _ _ (Value.ref _) (Value.int _ _)) _ _ _); k_dflt (refine' item_lit ?r57_N ?r57_hm ?r57_hi ?r57_h0 ?r57_h1 ?r57_he ?_; (case r57_N => k_asm); (case r57_hm => k_mem); (case r57_hi => assumption); (case r57_h0 => decide); (case r57_h1 => decide); (case r57_he => exact rfl)); intro r_t'))
  k_with "exec For Tuple Name cons nil" => ((k_here; (rename Fr _ _ _ _ => r_lF'); (with_unfolding_all refine' For_turns r_lF' ?_; k_whole)))
  k_with "newList" => ((k_here; k_extra "nl"))
  k_with "eval IfExp" => ((k_here; k_extra "ifexp"))
  k_with "call builtin:min" => ((k_here; (with_reducible show wpAny _ _ (call (Value.builtin _) [Value.ref _]) _ _ _); k_extra "few"))
  try dsimp only at F
  show wpAny _ _ _ _ _ _
  k_fold
  k_with "ifexp" => (
    (k_dflt (refine ifexp_cut (fun v => ∃ x t, v = .int x t ∧ HStart ms p0 count x) (wpAny_IfExp ?_) ?_));
    (try k_fold); rotate_left; (rintro _ tk8 ⟨x8, t8, rfl, hx8⟩); (try k_fold); rotate_left)
  k_with "nl" => (
    (k_dflt (refine newList_L (by k_asm) (by k_asm) ?_; k_whole));
    intro fd h8 F8 N8 l8; (try k_lt l8); (try k_sweep))
  k_with "fewest" => (
    (k_dflt (refine fewest_use (by k_asm) (by k_asm) (by k_asm) (by k_asm) (by k_asm) (by first | exact rfl | assumption) (by ktr_room) (by ktr_units) (by k_mem) hpi (by omega) (by omega) ?_));
    intro v8 t8 h8 tk8 hLst F8 N8; (have eD := (hRo.2.2.2.1 count (by omega) (by omega)).eq hLst); subst eD; clear hLst; (try k_sweep))
  k_with "turns" => (
    subst hZ;
    (rename Fr _ _ _ _ => lF'); (rename News _ _ _ _ => lN');
    (have hfd : OwnOff (zipQ hs qs ++ (fx ++ own)) [fd] := off_all l8.2);
    (k_dflt (refine hand_turns (ms := ms) (len := len) (count := count) (p0 := p0) (p1 := p1) (p2 := p2) (p3 := p3) (nk := nk) (by k_asm) (by k_asm) (by k_asm) (by first | exact rfl | assumption) (by ktr_room) (by ktr_units) lF' rfl rfl rfl (news_tail lN') (hfr _ m1) (hfr _ m2) (hfr _ m3) (hfr _ m4) (fun k hk p hp => hfr _ (m5 k hk p hp)) (zipQ_ne hq hfd) (off_right hfd) d4' d5 hcv (IntsAre.cons _ _ IntsAre.nil) ⟨hc.1, by omega, by omega, by omega⟩ hln ho.all hq (finv_0 hx8) (Nat.le_refl _) ?_ rfl));
    clear lF' lN';
    (intro fvs fl nf qs' u h tk hfi hq' hI hfl kFr kNews);
    (have M1 := K qs' _ m1); (have M2 := K qs' _ m2); (have M3 := K qs' _ m3); (have M6 := K qs' _ m6); (have M7 := K qs' _ m7);
    (have MP : ∀ p ∈ P, p ∈ zipQ hs qs' ++ (fx ++ own) := fun p hp => K qs' _ (mP p hp));
    (generalize hZ' : zipQ hs qs' ++ (fx ++ own) = Z' at kNews M1 M2 M3 M6 M7 MP);
    (unfold waysDict at M2);
    (try (show wpAny _ _ _ _ _ _));
    (try k_fold))
  k_with "few" => (
    (k_dflt (refine kso_min (by k_asm) (by k_asm) (News.isList (by k_asm) (by k_mem)) hfi (finv_ne hI) rfl ?_; k_whole));
    intro h8 M8 t8 tk8 F8 N8 hM1 hM2;
    (have eM := finv_end ho hI (by omega) hAL (hAL count (by omega) (by omega)) hM1 hM2); subst eM; clear hM1 hM2; (try k_sweep))
  k_with "told" => (
    (k_dflt (refine told_use (by k_asm) (by k_asm) (by k_asm) (by k_asm) (by k_asm) (by first | exact rfl | assumption) (by ktr_room) (by ktr_units) (by k_mem) (by k_mem) (by k_mem) (fun p hp => by (have := MP p hp); (repeat (first | exact this | refine List.Mem.tail _ ?_))) hRo (by omega) (by omega) ?_));
    intro l8 vs8 nl8 R8 tl8 h8 tk8 hlt8 hTd hTu F8 N8; clear hlt8; (try simp only [List.cons_append] at N8); (try k_sweep); (try k_fold))
  k_with "tright" => (
    (k_dflt (refine toldright_use (by k_asm) (by k_asm) (by k_asm) (by k_asm) (by k_asm) (by first | exact rfl | assumption) (by ktr_room) (by ktr_units) (by k_mem) (by (have h9 := List.mem_append_left tl8 M7); (repeat (first | exact h9 | refine List.Mem.tail _ ?_))) (fun p hp => by (repeat (first | exact List.mem_append_right _ hp | refine List.Mem.tail _ ?_))) hTu hpi hlp hRo.2.2.1 hTd rfl ?_));
    intro h8 tk8 F8 N8; (try k_sweep); (try k_fold))
  k_steps
  all_goals first
    | exact ⟨⟨_, _, rfl, hstart_1 (by assumption)⟩, _, rfl⟩
    | exact ⟨⟨_, _, rfl, hstart_0 hc.1 (by assumption)⟩, _, rfl⟩
    | (
      (subst hZ')
      (rename News _ _ _ _ => nE')
      (refine' free_endO (Led := cntL hs fx) qs' (by assumption) nE' ?ohn ?oho ?ohi ?ohf ?ohk ?ohr ?ohp)
      (case ohn => ((intro p hp); (have h9 := List.mem_append_left tl8 (cnt_in (own := own) hp)); (repeat (first | exact h9 | refine List.Mem.tail _ ?_))))
      (case oho => ((intro p hp); (have h9 := List.mem_append_left tl8 (List.mem_append_right (zipQ hs qs') (List.mem_append_right fx hp))); (repeat (first | exact h9 | refine List.Mem.tail _ ?_))))
      (case ohf => trivial)
      (case ohi => exact off_hi hoff (cntL_map hq hq'))
      (case ohk => exact List.forall_mem_nil _)
      (case ohr => kst_same)
      (case ohp => exact hq'))
end
theorem fixH_addr {Pm : Params} {c : Addr} {k : Nf} : ∀ p ∈ k.fixH Pm c, p.1 = k.t ∨ p.1 = k.x ∨ p.1 = k.d := List.forall_mem_cons.mpr ⟨.inl rfl, List.forall_mem_cons.mpr ⟨.inr (.inl rfl), List.forall_mem_cons.mpr ⟨.inr (.inr rfl), List.forall_mem_nil _⟩⟩⟩
theorem runs_above {Pm : Params} {len p0 p1 p2 p3 n : Int} {pr x dx c pc kd : Addr} {ms : List Int} {S : List (Int × Int)} {pcs : List Value} {kl P : List (Addr × Obj)} (h : RunsOk Pm len p0 p1 p2 p3 pr x dx c pc kd ms S pcs kl P n) : @LT.lt Nat _ pr dx ∧ @LT.lt Nat _ dx x ∧ @LT.lt Nat _ x c ∧ @LT.lt Nat _ c pc := h.2.2.2.2.2.2.2.2.above.2.2
theorem hand_q1 {α : Type} {q1 x dx c pc price ha t1 x1 d1 p : α} {r : List α} (hp : p ∈ [q1]) : p ∈ q1 :: x :: dx :: c :: pc :: price :: ha :: t1 :: x1 :: d1 :: r := (List.mem_append_left (x :: dx :: c :: pc :: price :: ha :: t1 :: x1 :: d1 :: r) hp : p ∈ [q1] ++ _)
theorem hand_h1 {α : Type} {q1 x dx c pc price ha t1 x1 d1 : α} {r : List α} : ha ∈ q1 :: x :: dx :: c :: pc :: price :: ha :: t1 :: x1 :: d1 :: r := (.tail _ (.tail _ (.tail _ (.tail _ (.tail _ (.tail _ (.head _)))))))
theorem hand_f1 {α : Type} {q1 x dx c pc price ha t1 x1 d1 p : α} {r : List α} (hp : p ∈ [t1, x1, d1]) : p ∈ q1 :: x :: dx :: c :: pc :: price :: ha :: t1 :: x1 :: d1 :: r := by
  rcases List.mem_cons.mp hp with rfl | hp
  · exact (.tail _ (.tail _ (.tail _ (.tail _ (.tail _ (.tail _ (.tail _ (.head _))))))))
  rcases List.mem_cons.mp hp with rfl | hp
  · exact (.tail _ (.tail _ (.tail _ (.tail _ (.tail _ (.tail _ (.tail _ (.tail _ (.head _)))))))))
  rcases List.mem_cons.mp hp with rfl | hp
  · exact (.tail _ (.tail _ (.tail _ (.tail _ (.tail _ (.tail _ (.tail _ (.tail _ (.tail _ (.head _))))))))))
  cases hp
theorem hand_b1 {α : Type} {q1 x dx c pc price ha t1 x1 d1 p : α} {r : List α} (hp : p ∈ x :: dx :: c :: pc :: price :: r) : p ∈ q1 :: x :: dx :: c :: pc :: price :: ha :: t1 :: x1 :: d1 :: r := by
  simp only [List.mem_cons] at hp ⊢
  rcases hp with h | h | h | h | h | h <;> simp [h]
theorem hand_q3 {α : Type} {q1 q2 q3 x dx c pc price ha t1 t2 t3 x1 x2 x3 d1 d2 d3 p : α} {r : List α} (hp : p ∈ [q1, q2, q3]) : p ∈ q1 :: q2 :: q3 :: x :: dx :: c :: pc :: price :: ha :: t1 :: t2 :: t3 :: x1 :: x2 :: x3 :: d1 :: d2 :: d3 :: r := (List.mem_append_left (x :: dx :: c :: pc :: price :: ha :: t1 :: t2 :: t3 :: x1 :: x2 :: x3 :: d1 :: d2 :: d3 :: r) hp : p ∈ [q1, q2, q3] ++ _)
theorem hand_h3 {α : Type} {q1 q2 q3 x dx c pc price ha t1 t2 t3 x1 x2 x3 d1 d2 d3 : α} {r : List α} : ha ∈ q1 :: q2 :: q3 :: x :: dx :: c :: pc :: price :: ha :: t1 :: t2 :: t3 :: x1 :: x2 :: x3 :: d1 :: d2 :: d3 :: r := (.tail _ (.tail _ (.tail _ (.tail _ (.tail _ (.tail _ (.tail _ (.tail _ (.head _)))))))))
theorem hand_f3 {α : Type} {q1 q2 q3 x dx c pc price ha t1 t2 t3 x1 x2 x3 d1 d2 d3 p : α} {r : List α} (hp : p ∈ [t1, x1, d1, t2, x2, d2, t3, x3, d3]) : p ∈ q1 :: q2 :: q3 :: x :: dx :: c :: pc :: price :: ha :: t1 :: t2 :: t3 :: x1 :: x2 :: x3 :: d1 :: d2 :: d3 :: r := by
  rcases List.mem_cons.mp hp with rfl | hp
  · exact (.tail _ (.tail _ (.tail _ (.tail _ (.tail _ (.tail _ (.tail _ (.tail _ (.tail _ (.head _))))))))))
  rcases List.mem_cons.mp hp with rfl | hp
  · exact (.tail _ (.tail _ (.tail _ (.tail _ (.tail _ (.tail _ (.tail _ (.tail _ (.tail _ (.tail _ (.tail _ (.tail _ (.head _)))))))))))))
  rcases List.mem_cons.mp hp with rfl | hp
  · exact (.tail _ (.tail _ (.tail _ (.tail _ (.tail _ (.tail _ (.tail _ (.tail _ (.tail _ (.tail _ (.tail _ (.tail _ (.tail _ (.tail _ (.tail _ (.head _))))))))))))))))
  rcases List.mem_cons.mp hp with rfl | hp
  · exact (.tail _ (.tail _ (.tail _ (.tail _ (.tail _ (.tail _ (.tail _ (.tail _ (.tail _ (.tail _ (.head _)))))))))))
  rcases List.mem_cons.mp hp with rfl | hp
  · exact (.tail _ (.tail _ (.tail _ (.tail _ (.tail _ (.tail _ (.tail _ (.tail _ (.tail _ (.tail _ (.tail _ (.tail _ (.tail _ (.head _))))))))))))))
  rcases List.mem_cons.mp hp with rfl | hp
  · exact (.tail _ (.tail _ (.tail _ (.tail _ (.tail _ (.tail _ (.tail _ (.tail _ (.tail _ (.tail _ (.tail _ (.tail _ (.tail _ (.tail _ (.tail _ (.tail _ (.head _)))))))))))))))))
  rcases List.mem_cons.mp hp with rfl | hp
  · exact (.tail _ (.tail _ (.tail _ (.tail _ (.tail _ (.tail _ (.tail _ (.tail _ (.tail _ (.tail _ (.tail _ (.head _))))))))))))
  rcases List.mem_cons.mp hp with rfl | hp
  · exact (.tail _ (.tail _ (.tail _ (.tail _ (.tail _ (.tail _ (.tail _ (.tail _ (.tail _ (.tail _ (.tail _ (.tail _ (.tail _ (.tail _ (.head _)))))))))))))))
  rcases List.mem_cons.mp hp with rfl | hp
  · exact (.tail _ (.tail _ (.tail _ (.tail _ (.tail _ (.tail _ (.tail _ (.tail _ (.tail _ (.tail _ (.tail _ (.tail _ (.tail _ (.tail _ (.tail _ (.tail _ (.tail _ (.head _))))))))))))))))))
  cases hp
theorem hand_b3 {α : Type} {q1 q2 q3 x dx c pc price ha t1 t2 t3 x1 x2 x3 d1 d2 d3 p : α} {r : List α} (hp : p ∈ x :: dx :: c :: pc :: price :: r) : p ∈ q1 :: q2 :: q3 :: x :: dx :: c :: pc :: price :: ha :: t1 :: t2 :: t3 :: x1 :: x2 :: x3 :: d1 :: d2 :: d3 :: r := by
  simp only [List.mem_cons] at hp ⊢
  rcases hp with h | h | h | h | h | h <;> simp [h]
section
variable {w : World} {A₀ : Around} {s : Shared} {base h₀ : Heap} {outer : List Env} {L : Addr} {m mg mb : Str → Option Value} {news : List (Addr × Obj)} {loose : List Str} {mean : ExcName → Option Value}
  {dp un : Nat} {gd : Option (List Code)} {cn : Str} {cs : Scope} {a : Addr} {ccd : Value} {cl : List (Str × Addr)} {Q : Flow → Shared → Prop}
theorem rr_loop {g hp9 : Heap} {L9 r : Addr} {m₀ : Str → Option Value} {x dx c pc pr kd price ha : Addr} {len b₀ many p0 p1 p2 p3 : Int} {cvs pcs prs : List Value} {ms : List Int} {S : List (Int × Int)} {hs : List Nf} {qs0 : List Nq} {n nc npc npr nk nd : Nat} {tl e1 e2 e3 e4 e5 e6 t₀ v₀ w₀ : Tok} {kl P bs nl : List (Addr × Obj)}
    (B : Below (ktrTop dp un gd cn cs L a ccd cl outer) base (envX cn cs L a ccd cl :: outer) g) (X₀ : (hd.heap_39 w.params).In g) (T : Top hd.view_39 loose mean mg mb g)
    (hk : cs.kind = .function) (hdp : dp < 320) (hun : un < 3000)
    (F9 : Fr g L9 hp9 m₀) (hm1 : m₀ (PySem.Str.ofString "length") = some (.int len tl)) (hm2 : m₀ (PySem.Str.ofString "price") = some (.ref price)) (hm3 : m₀ (PySem.Str.ofString "ways") = some (.ref x)) (hm4 : m₀ (PySem.Str.ofString "hands") = some (.ref ha))
    (N9 : News g L9 hp9 nl) (hsub : ∀ p ∈ zipQ hs qs0 ++ ((ha, listOf (hs.map fun k => Value.ref k.t).toArray nk) :: (hs.flatMap (Nf.fixH w.params c) ++ bs)), p ∈ nl)
    (hr9 : IsRange hp9 r 0 b₀ 1 t₀ v₀ w₀) (hhp : s.heap = hp9) (hsmall : Builtin.Range.small 0 b₀ 1 = true) (hn : Builtin.Range.rangeSize 0 b₀ 1 = (n : Int)) (hnm : (n : Int) ≤ many + 1)
    (hcv : IntsAre cvs ms) (hRo : RunsOk w.params len p0 p1 p2 p3 pr x dx c pc kd ms S pcs kl P many) (hmany : 0 ≤ many ∧ many ≤ 20) (hpi : IntsAre prs [p0, p1, p2, p3])
    (hp0 : 0 ≤ p0 ∧ p0 ≤ 40) (hp1 : 0 ≤ p1 ∧ p1 ≤ 40) (hp2 : 0 ≤ p2 ∧ p2 ≤ 40) (hp3 : 0 ≤ p3 ∧ p3 ≤ 40)
    (m1 : (x, instObj 82 dx) ∈ bs) (m2 : (dx, waysDict w.params e1 e2 e3 e4 e5 e6 nd len pr c pc kd) ∈ bs) (m3 : (c, listOf cvs.toArray nc) ∈ bs) (m6 : (pc, listOf (Value.none :: pcs).toArray npc) ∈ bs) (m7 : (price, listOf prs.toArray npr) ∈ bs) (mP : ∀ p ∈ P, p ∈ bs)
    (hB : ∀ p ∈ bs, OrdK p.1 hs) (hha : ∀ k ∈ hs, k.q ≠ ha) (ho : HsOk len p1 p2 p3 hs) (hln : hs.length ≤ 3) (hq0 : QAll ms (0 - 1) hs qs0)
    (done : ∀ (u : Str → Option Value) h tk, Fr g L9 h (fun z => if z = PySem.Str.ofString "count" then u z else if [PySem.Str.ofString "", PySem.Str.ofString "due", PySem.Str.ofString "found", PySem.Str.ofString "nearest", PySem.Str.ofString "more", PySem.Str.ofString "place"].contains z then u z else m₀ z) → Q .next { s with heap := h, toks := tk }) :
    wpAny (model PySem.Challenge.rw_tk0114_01.row.prog w) ((ktrTop dp un gd cn cs L a ccd cl outer).deeper (envOf (PySem.Str.ofString "_law_runs_right") (rrFor w.params).1.1 L9 147 (rrFor w.params).1.2.1)) (pyIter (.ref r)) (fun it s₂ => LoopAtV PySem.Challenge.rw_tk0114_01.row.prog w ((ktrTop dp un gd cn cs L a ccd cl outer).deeper (envOf (PySem.Str.ofString "_law_runs_right") (rrFor w.params).1.1 L9 147 (rrFor w.params).1.2.1)) g (envOf (PySem.Str.ofString "_law_runs_right") (rrFor w.params).1.1 L9 147 (rrFor w.params).1.2.1) (PySem.Str.ofString "count") (rrFor w.params).1.2.2 Q (fun _ _ => False) it s₂) (fun _ _ => False) s := by
  have up : ∀ p ∈ bs, p ∈ (ha, listOf (hs.map fun k => Value.ref k.t).toArray nk) :: (hs.flatMap (Nf.fixH w.params c) ++ bs) := fun p hp => .tail _ (List.mem_append_right _ hp)
  have hO := hB _ m1
  have d4 : ∀ k ∈ hs, OwnOff ((ha, listOf (hs.map fun k => Value.ref k.t).toArray nk) :: (hs.flatMap (Nf.fixH w.params c) ++ bs)) [k.q] := fun k hk' p hp b hb => by
    rw [List.mem_singleton.mp hb]
    rcases List.mem_cons.mp hp with rfl | hp
    · exact (hha k hk').symm
    rcases List.mem_append.mp hp with hp | hp
    · obtain ⟨k2, h2, h3⟩ := List.mem_flatMap.mp hp
      obtain ⟨z1, z2, z3⟩ := hO.off k hk' k2 h2
      rcases fixH_addr p h3 with e | e | e <;> rw [e]
      · exact z1
      · exact z2
      · exact z3
    · exact Nat.ne_of_lt ((hB p hp).hi k hk').2.1
  refine cnt_run (fx := (ha, listOf (hs.map fun k => Value.ref k.t).toArray nk) :: (hs.flatMap (Nf.fixH w.params c) ++ bs)) F9 N9 hsub hr9 rfl hhp rfl hsmall hn hq0 (fun qs i t u h tk own hi hoff hq F' N' => ?_) fun qs u h tk F' _ => done u h tk F'
  exact rr_turn (nk := nk) B X₀ T hk hdp hun hm1 hm2 hm3 hm4 hcv hRo hmany hpi hp0 hp1 hp2 hp3 (up _ m1) (up _ m2) (up _ m3) (up _ m6) (up _ m7) (.head _) (fun k hk' p hp => .tail _ (List.mem_append_left _ (List.mem_flatMap.mpr ⟨k, hk', hp⟩))) (fun p hp => up p (mP p hp)) d4 hO.nodup ho hln ⟨by omega, by omega⟩ (by omega) hoff hq F' N'
theorem rr_loop3 {g hp9 : Heap} {L9 r : Addr} {m₀ : Str → Option Value} {x dx c pc pr kd price ha t1 x1 d1 q1 t2 x2 d2 q2 t3 x3 d3 q3 : Addr} {len b₀ many p0 p1 p2 p3 : Int} {cvs pcs prs : List Value} {ms : List Int} {S : List (Int × Int)} {n : Nat} {nc npc npr nk nd nt1 ndd1 n1 nt2 ndd2 n2 nt3 ndd3 n3 : Nat} {tl e1 e2 e3 e4 e5 e6 y1 a11 a12 a13 a14 a15 a16 a17 a18 y2 a21 a22 a23 a24 a25 a26 a27 a28 y3 a31 a32 a33 a34 a35 a36 a37 a38 t₀ v₀ w₀ : Tok} {kl P nl : List (Addr × Obj)}
    (B : Below (ktrTop dp un gd cn cs L a ccd cl outer) base (envX cn cs L a ccd cl :: outer) g) (X₀ : (hd.heap_39 w.params).In g) (T : Top hd.view_39 loose mean mg mb g)
    (hk : cs.kind = .function) (hdp : dp < 320) (hun : un < 3000)
    (F9 : Fr g L9 hp9 m₀) (hm1 : m₀ (PySem.Str.ofString "length") = some (.int len tl)) (hm2 : m₀ (PySem.Str.ofString "price") = some (.ref price)) (hm3 : m₀ (PySem.Str.ofString "ways") = some (.ref x)) (hm4 : m₀ (PySem.Str.ofString "hands") = some (.ref ha))
    (N9 : News g L9 hp9 nl) (hsub : ∀ p ∈ (q1, listOf [].toArray n1) :: (q2, listOf [].toArray n2) :: (q3, listOf [].toArray n3) :: (x, instObj 82 dx) :: (dx, waysDict w.params e1 e2 e3 e4 e5 e6 nd len pr c pc kd) :: (c, listOf cvs.toArray nc) :: (pc, listOf (Value.none :: pcs).toArray npc) :: (price, listOf prs.toArray npr) :: (ha, listOf [Value.ref t1, Value.ref t2, Value.ref t3].toArray nk) :: (t1, tup2 (.ref x1) (.int p1 y1) nt1) :: (t2, tup2 (.ref x2) (.int p2 y2) nt2) :: (t3, tup2 (.ref x3) (.int p3 y3) nt3) :: (x1, instObj 40 d1) :: (x2, instObj 40 d2) :: (x3, instObj 40 d3) :: (d1, nearDict w.params a11 a12 a13 a14 a15 a16 a17 a18 ndd1 1 3 6 c q1) :: (d2, nearDict w.params a21 a22 a23 a24 a25 a26 a27 a28 ndd2 0 3 10 c q2) :: (d3, nearDict w.params a31 a32 a33 a34 a35 a36 a37 a38 ndd3 0 11 138 c q3) :: (kl ++ P), p ∈ nl)
    (hr9 : IsRange hp9 r 0 b₀ 1 t₀ v₀ w₀) (hhp : s.heap = hp9) (hsmall : Builtin.Range.small 0 b₀ 1 = true) (hn : Builtin.Range.rangeSize 0 b₀ 1 = (n : Int)) (hnm : (n : Int) ≤ many + 1)
    (hcv : IntsAre cvs ms) (hRo : RunsOk w.params len p0 p1 p2 p3 pr x dx c pc kd ms S pcs kl P many) (hmany : 0 ≤ many ∧ many ≤ 20) (hpi : IntsAre prs [p0, p1, p2, p3])
    (hp0 : 0 ≤ p0 ∧ p0 ≤ 40) (hp1 : 0 ≤ p1 ∧ p1 ≤ 40) (hp2 : 0 ≤ p2 ∧ p2 ≤ 40) (hp3 : 0 ≤ p3 ∧ p3 ≤ 40)
    (hz : len = 0) (hpd : @LT.lt Nat _ price d1) (hcd : @LT.lt Nat _ pc d1) (o1 : @LT.lt Nat _ d1 x1 ∧ @LT.lt Nat _ x1 q1 ∧ @LT.lt Nat _ q1 t1 ∧ @LT.lt Nat _ t1 d2 ∧ @LT.lt Nat _ d2 x2 ∧ @LT.lt Nat _ x2 q2 ∧ @LT.lt Nat _ q2 t2 ∧ @LT.lt Nat _ t2 d3 ∧ @LT.lt Nat _ d3 x3 ∧ @LT.lt Nat _ x3 q3 ∧ @LT.lt Nat _ q3 t3 ∧ @LT.lt Nat _ t3 ha) (hoK : AllLt d1 (kl ++ P))
    (done : ∀ (u : Str → Option Value) h tk, Fr g L9 h (fun z => if z = PySem.Str.ofString "count" then u z else if [PySem.Str.ofString "", PySem.Str.ofString "due", PySem.Str.ofString "found", PySem.Str.ofString "nearest", PySem.Str.ofString "more", PySem.Str.ofString "place"].contains z then u z else m₀ z) → Q .next { s with heap := h, toks := tk }) :
    wpAny (model PySem.Challenge.rw_tk0114_01.row.prog w) ((ktrTop dp un gd cn cs L a ccd cl outer).deeper (envOf (PySem.Str.ofString "_law_runs_right") (rrFor w.params).1.1 L9 147 (rrFor w.params).1.2.1)) (pyIter (.ref r)) (fun it s₂ => LoopAtV PySem.Challenge.rw_tk0114_01.row.prog w ((ktrTop dp un gd cn cs L a ccd cl outer).deeper (envOf (PySem.Str.ofString "_law_runs_right") (rrFor w.params).1.1 L9 147 (rrFor w.params).1.2.1)) g (envOf (PySem.Str.ofString "_law_runs_right") (rrFor w.params).1.1 L9 147 (rrFor w.params).1.2.1) (PySem.Str.ofString "count") (rrFor w.params).1.2.2 Q (fun _ _ => False) it s₂) (fun _ _ => False) s := by
  obtain ⟨o0, o1, o2, o3, o4, o5, o6, o7, o8, o9, o10, o11⟩ := o1
  have hAb := runs_above hRo
  have hT : ∀ lo : Nat, lo < d1 → OrdK lo [⟨t1, x1, d1, q1, p1, 3, 6, 1, nt1, ndd1, y1, a11, a12, a13, a14, a15, a16, a17, a18⟩, ⟨t2, x2, d2, q2, p2, 3, 10, 0, nt2, ndd2, y2, a21, a22, a23, a24, a25, a26, a27, a28⟩, ⟨t3, x3, d3, q3, p3, 11, 138, 0, nt3, ndd3, y3, a31, a32, a33, a34, a35, a36, a37, a38⟩] := fun lo h => ⟨h, o0, o1, o2, o3, o4, o5, o6, o7, o8, o9, o10, trivial⟩
  have hc9 := Nat.lt_trans hAb.2.2.2 hcd
  have hx9 := Nat.lt_trans hAb.2.2.1 hc9
  refine rr_loop (hs := [⟨t1, x1, d1, q1, p1, 3, 6, 1, nt1, ndd1, y1, a11, a12, a13, a14, a15, a16, a17, a18⟩, ⟨t2, x2, d2, q2, p2, 3, 10, 0, nt2, ndd2, y2, a21, a22, a23, a24, a25, a26, a27, a28⟩, ⟨t3, x3, d3, q3, p3, 11, 138, 0, nt3, ndd3, y3, a31, a32, a33, a34, a35, a36, a37, a38⟩]) (qs0 := [⟨[], [], n1⟩, ⟨[], [], n2⟩, ⟨[], [], n3⟩]) (nk := nk) (bs := (x, instObj 82 dx) :: (dx, waysDict w.params e1 e2 e3 e4 e5 e6 nd len pr c pc kd) :: (c, listOf cvs.toArray nc) :: (pc, listOf (Value.none :: pcs).toArray npc) :: (price, listOf prs.toArray npr) :: (kl ++ P)) B X₀ T hk hdp hun F9 hm1 hm2 hm3 hm4 N9 (fun p hp => hsub p ?_) hr9 hhp hsmall hn hnm hcv hRo hmany hpi hp0 hp1 hp2 hp3 (.head _) (.tail _ (.head _)) (.tail _ (.tail _ (.head _))) (.tail _ (.tail _ (.tail _ (.head _)))) (.tail _ (.tail _ (.tail _ (.tail _ (.head _)))))
    (fun p hp => .tail _ (.tail _ (.tail _ (.tail _ (.tail _ (List.mem_append_right _ hp)))))) ?_ (List.forall_mem_cons.mpr ⟨Nat.ne_of_lt (Nat.lt_trans o2 (Nat.lt_trans o3 (Nat.lt_trans o4 (Nat.lt_trans o5 (Nat.lt_trans o6 (Nat.lt_trans o7 (Nat.lt_trans o8 (Nat.lt_trans o9 (Nat.lt_trans o10 o11))))))))), List.forall_mem_cons.mpr ⟨Nat.ne_of_lt (Nat.lt_trans o6 (Nat.lt_trans o7 (Nat.lt_trans o8 (Nat.lt_trans o9 (Nat.lt_trans o10 o11))))), List.forall_mem_cons.mpr ⟨Nat.ne_of_lt (Nat.lt_trans o10 o11), List.forall_mem_nil _⟩⟩⟩) (.inr ⟨hz, rfl⟩) (Nat.le_of_ble_eq_true rfl) ⟨kinds_nil (show (0 : Int) ≤ 1 by decide) (show (0 : Int) ≤ 3 by decide), kinds_nil (show (0 : Int) ≤ 0 by decide) (show (0 : Int) ≤ 3 by decide), kinds_nil (show (0 : Int) ≤ 0 by decide) (show (0 : Int) ≤ 11 by decide), trivial⟩ done
  · rw [List.mem_append] at hp
    rcases hp with hp | hp
    · exact hand_q3 hp
    rcases List.mem_cons.mp hp with rfl | hp
    · exact hand_h3
    · rcases List.mem_append.mp hp with hp | hp
      · exact hand_f3 hp
      · exact hand_b3 hp
  · refine List.forall_mem_cons.mpr ⟨hT _ hx9, List.forall_mem_cons.mpr ⟨hT _ (Nat.lt_trans hAb.2.1 hx9), List.forall_mem_cons.mpr ⟨hT _ hc9, List.forall_mem_cons.mpr ⟨hT _ hcd, List.forall_mem_cons.mpr ⟨hT _ hpd, fun p hp => hT _ (allLt_all hoK p hp)⟩⟩⟩⟩⟩
theorem rr_loop1 {g hp9 : Heap} {L9 r : Addr} {m₀ : Str → Option Value} {x dx c pc pr kd price ha t1 x1 d1 q1 : Addr} {len b₀ many p0 p1 p2 p3 : Int} {cvs pcs prs : List Value} {ms : List Int} {S : List (Int × Int)} {n : Nat} {nc npc npr nk nd nt1 ndd1 n1 : Nat} {tl e1 e2 e3 e4 e5 e6 y1 a11 a12 a13 a14 a15 a16 a17 a18 t₀ v₀ w₀ : Tok} {kl P nl : List (Addr × Obj)}
    (B : Below (ktrTop dp un gd cn cs L a ccd cl outer) base (envX cn cs L a ccd cl :: outer) g) (X₀ : (hd.heap_39 w.params).In g) (T : Top hd.view_39 loose mean mg mb g)
    (hk : cs.kind = .function) (hdp : dp < 320) (hun : un < 3000)
    (F9 : Fr g L9 hp9 m₀) (hm1 : m₀ (PySem.Str.ofString "length") = some (.int len tl)) (hm2 : m₀ (PySem.Str.ofString "price") = some (.ref price)) (hm3 : m₀ (PySem.Str.ofString "ways") = some (.ref x)) (hm4 : m₀ (PySem.Str.ofString "hands") = some (.ref ha))
    (N9 : News g L9 hp9 nl) (hsub : ∀ p ∈ (q1, listOf [].toArray n1) :: (x, instObj 82 dx) :: (dx, waysDict w.params e1 e2 e3 e4 e5 e6 nd len pr c pc kd) :: (c, listOf cvs.toArray nc) :: (pc, listOf (Value.none :: pcs).toArray npc) :: (price, listOf prs.toArray npr) :: (ha, listOf [Value.ref t1].toArray nk) :: (t1, tup2 (.ref x1) (.int p1 y1) nt1) :: (x1, instObj 40 d1) :: (d1, nearDict w.params a11 a12 a13 a14 a15 a16 a17 a18 ndd1 0 3 6 c q1) :: (kl ++ P), p ∈ nl)
    (hr9 : IsRange hp9 r 0 b₀ 1 t₀ v₀ w₀) (hhp : s.heap = hp9) (hsmall : Builtin.Range.small 0 b₀ 1 = true) (hn : Builtin.Range.rangeSize 0 b₀ 1 = (n : Int)) (hnm : (n : Int) ≤ many + 1)
    (hcv : IntsAre cvs ms) (hRo : RunsOk w.params len p0 p1 p2 p3 pr x dx c pc kd ms S pcs kl P many) (hmany : 0 ≤ many ∧ many ≤ 20) (hpi : IntsAre prs [p0, p1, p2, p3])
    (hp0 : 0 ≤ p0 ∧ p0 ≤ 40) (hp1 : 0 ≤ p1 ∧ p1 ≤ 40) (hp2 : 0 ≤ p2 ∧ p2 ≤ 40) (hp3 : 0 ≤ p3 ∧ p3 ≤ 40)
    (hz : ¬ len = 0) (hpd : @LT.lt Nat _ price d1) (hcd : @LT.lt Nat _ pc d1) (o1 : @LT.lt Nat _ d1 x1 ∧ @LT.lt Nat _ x1 q1 ∧ @LT.lt Nat _ q1 t1 ∧ @LT.lt Nat _ t1 ha) (hoK : AllLt d1 (kl ++ P))
    (done : ∀ (u : Str → Option Value) h tk, Fr g L9 h (fun z => if z = PySem.Str.ofString "count" then u z else if [PySem.Str.ofString "", PySem.Str.ofString "due", PySem.Str.ofString "found", PySem.Str.ofString "nearest", PySem.Str.ofString "more", PySem.Str.ofString "place"].contains z then u z else m₀ z) → Q .next { s with heap := h, toks := tk }) :
    wpAny (model PySem.Challenge.rw_tk0114_01.row.prog w) ((ktrTop dp un gd cn cs L a ccd cl outer).deeper (envOf (PySem.Str.ofString "_law_runs_right") (rrFor w.params).1.1 L9 147 (rrFor w.params).1.2.1)) (pyIter (.ref r)) (fun it s₂ => LoopAtV PySem.Challenge.rw_tk0114_01.row.prog w ((ktrTop dp un gd cn cs L a ccd cl outer).deeper (envOf (PySem.Str.ofString "_law_runs_right") (rrFor w.params).1.1 L9 147 (rrFor w.params).1.2.1)) g (envOf (PySem.Str.ofString "_law_runs_right") (rrFor w.params).1.1 L9 147 (rrFor w.params).1.2.1) (PySem.Str.ofString "count") (rrFor w.params).1.2.2 Q (fun _ _ => False) it s₂) (fun _ _ => False) s := by
  obtain ⟨o0, o1, o2, o3⟩ := o1
  have hAb := runs_above hRo
  have hT : ∀ lo : Nat, lo < d1 → OrdK lo [⟨t1, x1, d1, q1, p1, 3, 6, 0, nt1, ndd1, y1, a11, a12, a13, a14, a15, a16, a17, a18⟩] := fun lo h => ⟨h, o0, o1, o2, trivial⟩
  have hc9 := Nat.lt_trans hAb.2.2.2 hcd
  have hx9 := Nat.lt_trans hAb.2.2.1 hc9
  refine rr_loop (hs := [⟨t1, x1, d1, q1, p1, 3, 6, 0, nt1, ndd1, y1, a11, a12, a13, a14, a15, a16, a17, a18⟩]) (qs0 := [⟨[], [], n1⟩]) (nk := nk) (bs := (x, instObj 82 dx) :: (dx, waysDict w.params e1 e2 e3 e4 e5 e6 nd len pr c pc kd) :: (c, listOf cvs.toArray nc) :: (pc, listOf (Value.none :: pcs).toArray npc) :: (price, listOf prs.toArray npr) :: (kl ++ P)) B X₀ T hk hdp hun F9 hm1 hm2 hm3 hm4 N9 (fun p hp => hsub p ?_) hr9 hhp hsmall hn hnm hcv hRo hmany hpi hp0 hp1 hp2 hp3 (.head _) (.tail _ (.head _)) (.tail _ (.tail _ (.head _))) (.tail _ (.tail _ (.tail _ (.head _)))) (.tail _ (.tail _ (.tail _ (.tail _ (.head _)))))
    (fun p hp => .tail _ (.tail _ (.tail _ (.tail _ (.tail _ (List.mem_append_right _ hp)))))) ?_ (List.forall_mem_cons.mpr ⟨Nat.ne_of_lt (Nat.lt_trans o2 o3), List.forall_mem_nil _⟩) (.inl ⟨hz, rfl⟩) (Nat.le_of_ble_eq_true rfl) ⟨kinds_nil (show (0 : Int) ≤ 0 by decide) (show (0 : Int) ≤ 3 by decide), trivial⟩ done
  · rw [List.mem_append] at hp
    rcases hp with hp | hp
    · exact hand_q1 hp
    rcases List.mem_cons.mp hp with rfl | hp
    · exact hand_h1
    · rcases List.mem_append.mp hp with hp | hp
      · exact hand_f1 hp
      · exact hand_b1 hp
  · refine List.forall_mem_cons.mpr ⟨hT _ hx9, List.forall_mem_cons.mpr ⟨hT _ (Nat.lt_trans hAb.2.1 hx9), List.forall_mem_cons.mpr ⟨hT _ hc9, List.forall_mem_cons.mpr ⟨hT _ hcd, List.forall_mem_cons.mpr ⟨hT _ hpd, fun p hp => hT _ (allLt_all hoK p hp)⟩⟩⟩⟩⟩
end

end
section
theorem intsAre_set {us : List Value} {ns : List Int} (h : IntsAre us ns) (i : Nat) (x : Int) (u : Tok) : IntsAre (us.set i (.int x u)) (ns.set i x) := by
  induction h generalizing i with
  | nil => exact .nil
  | cons k t r ih =>
    cases i with
    | zero => exact .cons _ _ r
    | succ i => exact .cons _ _ (ih i)
section
variable {prog : Program} {w : World} {A : Around} {s : Shared} {h₀ : Heap} {L : Addr} {m : Str → Option Value} {news : List (Addr × Obj)} {E : Value → Shared → Prop}
theorem set_ints {Q : Unit → Shared → Prop} {D : Addr} {us : List Value} {ns : List Int} {n : Nat} {k x : Int} {t u : Tok} {news' : Obj → List (Addr × Obj)} (F : Fr h₀ L s.heap m) (N : News h₀ L s.heap news)
    (U : ∀ o', Upd D (listOf us.toArray n) o' news (news' o')) (hi : IntsAre us ns) (h0 : 0 ≤ k) (h1 : k < ns.length) (hl : ns.length ≤ 1000)
    (h : ∀ h' us', IntsAre us' (ns.set k.toNat x) → Fr h₀ L h' m → News h₀ L h' (news' (listOf us'.toArray n)) → Q () { s with heap := h' }) : wpAny (model prog w) A (setItem (.ref D) (.int k t) (.int x u)) Q E s := by
  obtain ⟨pre, post, rfl, e2, a, b⟩ := (U (listOf (us.set k.toNat (.int x u)).toArray n)).split
  have z := N (D, listOf us.toArray n) (List.mem_append.mpr (.inr (.head _)))
  have hz : us.toArray.size = ns.length := by rw [List.size_toArray, hi.length]
  refine ki_setAt z.1 h0 (by omega) (by omega) (h _ (us.set k.toNat (.int x u)) (intsAre_set hi _ _ _) (F.change (Heap.SameBut.update ..) z.2.1 z.2.2) ?_)
  rw [e2]
  refine ki_turn _ N a b ?_ ?_
  · show us.toArray.setIfInBounds k.toNat (.int x u) = _
    rw [List.setIfInBounds_toArray]
  · rw [if_pos (by simp)]
theorem mul_len {Q : Value → Shared → Prop} {a b : Int} {t u : Tok} (h1 : 0 ≤ a ∧ a ≤ 15) (h2 : b = 0 ∨ b = 1) (h : ∀ v t', 0 ≤ v ∧ v ≤ 15 → Q (.int v t') { s with toks := s.toks + 1 }) : wpAny (model prog w) A (binaryOp .Mult (.int a t) (.int b u)) Q E s :=
  mul_int (h _ _ (by rcases h2 with rfl | rfl <;> omega)) (mul_small (by omega) (by omega))
end
section
variable {w : World} {A₀ : Around} {s : Shared} {base h₀ : Heap} {outer : List Env} {L : Addr} {m mg mb : Str → Option Value} {news : List (Addr × Obj)} {loose : List Str} {mean : ExcName → Option Value}
  {dp un : Nat} {gd : Option (List Code)} {cn : Str} {cs : Scope} {a : Addr} {ccd : Value} {cl : List (Str × Addr)} {Q E : Value → Shared → Prop}
theorem init_use {pr : Addr} {pvs : List Value} {np : Nat} {len begun p0 p1 p2 p3 : Int} {Ps : List Int} {tk1 tk2 : Tok}
    (B : Below A₀ base outer h₀) (F : Fr h₀ L s.heap m) (X₀ : (hd.heap_39 w.params).In h₀) (N : News h₀ L s.heap news) (T : Top hd.view_39 loose mean mg mb h₀)
    (hk : cs.kind = .function) (hdp : dp < 360) (hun : un < 3600)
    (hpr : (pr, listOf pvs.toArray np) ∈ news) (hpi : IntsAre pvs Ps) (hPs : PricesOk Ps len p0 p1 p2 p3) (hl : 0 ≤ len ∧ len ≤ 15) (hb : 0 ≤ begun ∧ begun ≤ 20)
    (ret : ∀ x dx c pc kd cvs nc ms pcs npc S kl P nd e1 e2 e3 e4 e5 e6 h' tk', (∀ p ∈ news, @LT.lt Nat _ p.1 dx) → IntsAre cvs ms → RunsOk w.params len p0 p1 p2 p3 pr x dx c pc kd ms S pcs kl P begun → Fr h₀ L h' m →
      News h₀ L h' ((x, instObj 82 dx) :: (dx, waysDict w.params e1 e2 e3 e4 e5 e6 nd len pr c pc kd) :: (c, listOf cvs.toArray nc) :: (pc, listOf (Value.none :: pcs).toArray npc) :: (news ++ (kl ++ P))) → Q (.ref x) { s with heap := h', toks := tk' }) :
    wpAny (model PySem.Challenge.rw_tk0114_01.row.prog w) (ktrTop dp un gd cn cs L a ccd cl outer) (call (.ref 82) [.int len tk1, .ref pr, .int begun tk2]) Q E s :=
  init_con B F X₀ N T hk hdp hun hpr hpi hPs hl hb fun x dx c pc kd cvs nc ms pcs npc S kl P nd e1 e2 e3 e4 e5 e6 h' tk' a1 a2 a3 F' N' =>
    ret x dx c pc kd cvs nc ms pcs npc S kl P nd e1 e2 e3 e4 e5 e6 h' tk' a1 a2 a3 F' fun p hp => N' p (by
      simp only [runLed, List.nil_append, List.mem_cons, List.mem_append] at hp ⊢
      rcases hp with h | h | h | h | h | h | h <;> simp [h])
end
theorem nt_one {l : Int} (h : l = 0) : (if (l == 0) = true then (1 : Int) else 0) = 1 := by rw [if_pos (by simp [h])]
theorem nt_zero {l : Int} (h : ¬ l = 0) : (if (l == 0) = true then (1 : Int) else 0) = 0 := by rw [if_neg (by simp [h])]
theorem prices_ok {len p0 p1 p2 p3 : Int} (h : 0 ≤ len ∧ len ≤ 15) : PricesOk (List.set [40, 40, 40, 40, 40, 40, 40, 40, 40, 40, 40, 40, 40, 40, 40, 40, p1 - 2, p2 - 3, p3 - 7] len.toNat p0) len p0 p1 p2 p3 := by
  obtain ⟨k, rfl⟩ : ∃ k : Nat, len = (k : Int) := ⟨len.toNat, by omega⟩
  have hk : k < 16 := by omega
  refine ⟨by simp, ?_, ?_, ?_, ?_⟩
  · unfold gi; rw [Int.toNat_natCast, List.getD_eq_getElem?_getD, List.getElem?_set_self (by simp; omega)]; rfl
  · unfold gi; rw [Int.toNat_natCast, List.getD_eq_getElem?_getD, List.getElem?_set_ne (by show k ≠ 16; omega)]; show p1 - 2 + 2 = p1; omega
  · unfold gi; rw [Int.toNat_natCast, List.getD_eq_getElem?_getD, List.getElem?_set_ne (by show k ≠ 17; omega)]; show p2 - 3 + 3 = p2; omega
  · unfold gi; rw [Int.toNat_natCast, List.getD_eq_getElem?_getD, List.getElem?_set_ne (by show k ≠ 18; omega)]; show p3 - 7 + 7 = p3; omega
section
variable {w : World} {A₀ : Around} {s : Shared} {base h₀ : Heap} {outer : List Env} {L : Addr} {m mg mb : Str → Option Value} {news : List (Addr × Obj)} {loose : List Str} {mean : ExcName → Option Value}
  {dp un : Nat} {gd : Option (List Code)} {cn : Str} {cs : Scope} {a : Addr} {ccd : Value} {cl : List (Str × Addr)} {Q E : Value → Shared → Prop}
theorem runsright_con {j : Addr} {vs : List Value} {n : Nat} {ns : List Int}
    (B : Below A₀ base outer h₀) (F : Fr h₀ L s.heap m) (X₀ : (hd.heap_39 w.params).In h₀) (N : News h₀ L s.heap news) (T : Top hd.view_39 loose mean mg mb h₀)
    (hk : cs.kind = .function) (hdp : dp < 320) (hun : un < 3000)
    (hj : (j, listOf vs.toArray n) ∈ news) (hi : IntsAre vs ns) (hJ : JarOk 400 ns)
    (ret : ∀ h' tk', Fr h₀ L h' m → Q (.bool true) { s with heap := h', toks := tk' }) :
    wpAny (model PySem.Challenge.rw_tk0114_01.row.prog w) (ktrTop dp un gd cn cs L a ccd cl outer) (call (.ref 147) [.ref j]) Q E s := by
  walk_at "FILL"
  k_with "ENTER" => (k_dflt (refine' code_sub ?kPost ?k1 ?k2 ?k3 ?k4 ?k5 ?kA ?kF ?kK ?k6 ?k7 ?k8 ?k9 ?kB ?kS ?kBody ?kRet ?c5 ?c2 ?c3 ?c4; (case kA => exact rfl); (case kF => exact rfl); (case kK => k_asm); (case k1 => k_asm); (case k2 => k_asm); (case k3 => k_asm); (case k4 => k_asm); (case k5 => k_asm); (case k6 => k_is); (case k7 => k_is); (case k8 => ktr_room); (case k9 => first | exact BindsTo.of_eq (rfl : bindArgs _ _ = pure [(_, _)]) | exact BindsTo.of_eq (rfl : bindArgs _ _ = pure [(_, _), (_, _)]) | exact BindsTo.of_eq (rfl : bindArgs _ _ = pure [(_, _), (_, _), (_, _)]) | exact BindsTo.of_eq (rfl : bindArgs _ _ = pure [(_, _), (_, _), (_, _), (_, _)]) | exact BindsTo.of_eq (rfl : bindArgs _ _ = pure [(_, _), (_, _), (_, _), (_, _), (_, _)]) | exact BindsTo.of_eq rfl); (case c5 => decide); (case kB => exact locs rfl); (case c2 => exact rfl); (case c3 => exact rfl); (case c4 => exact rfl)))
  k_with "RetP" => (((try dsimp only [flv]); refine RetP.owed (by k_asm) (by k_asm) ?_))
  k_with "newList" => ((k_here; k_dflt (refine' newList_L ?r3_k1 ?r3_k2 ?_; (case r3_k1 => k_asm); (case r3_k2 => k_asm); k_whole); intro r_l' r_h' r_F' r_N' r_l1; (try k_lt r_l1); (try k_sweep)))
  k_with "call builtin:list.append" => ((k_here; (with_reducible show wpAny _ _ (call (Value.builtin _) [Value.ref _, Value.int _ _]) _ _ _); k_dflt (refine' append_ints ?r4_k1 ?r4_k2 (fun o' => ?r4_k3) ?r4_hi ?r4_hl ?_; (case r4_k1 => k_asm); (case r4_k2 => k_asm); (case r4_k3 => k_upd); (case r4_hi => assumption); (case r4_hl => first | omega | (simp only [List.length_append, List.length_cons, List.length_nil] at *; omega)); k_whole); intro r_h' r_us' r_un' r_hI' r_F' r_N'; (try dsimp only at r_N'); (try k_sweep)))
  k_with "FreePost" => ((dsimp only [FreePost]))
  k_with "NOITER" => ((repeat' (first | exact List.forall_mem_nil _ | (refine List.forall_mem_cons.mpr ⟨?_, ?_⟩) | exact noIter_list _ _ | exact noIter_inst _ _ | exact noIter_dict _ _ | exact noIter_tup _ _ | exact noIter_cell (by assumption))))
  k_with "OWNIN" => ((intro r_p r_hp; k_ownIn))
  k_with "subscriptTail" => ((k_here; (with_reducible show wpAny _ _ (subscriptTail _ _ (Value.ref _) (Value.int _ _)) _ _ _); k_dflt (refine' item_bnd ?r8_N ?r8_hm ?r8_hi ?r8_h0 ?r8_h1 ?r8_h2 ?_; (case r8_N => k_asm); (case r8_hm => k_mem); (case r8_hi => assumption); (case r8_h0 => first | omega | k_extra "low"); (case r8_h1 => first | omega | k_extra "high"); (case r8_h2 => omega)); intro r_t'))
  k_with "ENTERC" => (k_dflt (refine' code_subC ?kPost ?k1 ?k2 ?k3 ?k4 ?k5 ?kA ?kF ?kK ?k6 ?k7 ?k8 ?k9 ?kB ?kD ?kS ?kBody ?kRet ?c2 ?c3 ?c4; (case kA => exact rfl); (case kF => exact rfl); (case kK => k_asm); (case k1 => k_asm); (case k2 => k_asm); (case k3 => k_asm); (case k4 => k_asm); (case k5 => k_asm); (case k6 => k_is); (case k7 => k_is); (case k8 => ktr_room); (case k9 => first | exact BindsTo.of_eq (rfl : bindArgs _ _ = pure [(_, _)]) | exact BindsTo.of_eq (rfl : bindArgs _ _ = pure [(_, _), (_, _)]) | exact BindsTo.of_eq (rfl : bindArgs _ _ = pure [(_, _), (_, _), (_, _)]) | exact BindsTo.of_eq (rfl : bindArgs _ _ = pure [(_, _), (_, _), (_, _), (_, _)]) | exact BindsTo.of_eq (rfl : bindArgs _ _ = pure [(_, _), (_, _), (_, _), (_, _), (_, _)]) | exact BindsTo.of_eq rfl); (case kB => exact rfl); (case kD => decide +kernel); (case c2 => exact rfl); (case c3 => exact rfl); (case c4 => exact rfl)))
  k_with "GROUNDC" => ((intro r_g' r_L' r_h' r_tk' r_cells' r_F' r_N' r_Y' r_l1 r_B' r_X' r_T' r_lN; k_lt r_l1; k_cells r_Y'; (try simp only [List.cons_append, List.nil_append] at r_N'); (try dsimp only)))
  k_with "call ref" => ((k_here; (with_reducible show wpAny _ _ (call (Value.ref 100) [Value.ref _, Value.int _ _]) _ _ _); k_dflt (refine' take_use ?r17_B ?r17_F ?r17_X ?r17_N ?r17_T ?r17_hk ?r17_hd ?r17_hu (fun o' => ?r17_U) ?r17_hi ?r17_hJ ?r17_hb ?r17_h5 ?r17_h6 ?_; (case r17_B => k_asm); (case r17_F => k_asm); (case r17_X => k_asm); (case r17_N => k_asm); (case r17_T => k_asm); (case r17_hk => first | exact rfl | assumption); (case r17_hd => ktr_room); (case r17_hu => ktr_units); (case r17_U => k_upd); (case r17_hi => assumption); (case r17_hJ => assumption); (case r17_hb => omega); (case r17_h5 => omega); (case r17_h6 => omega)); intro r_d' r_t' r_vs' r_n' r_ns' r_h' r_tk' r_hd1' r_hd2' r_hI' r_hJ' r_F' r_N'; (try dsimp only at r_N'); (try k_sweep)))
  k_with "call ref" => ((k_here; (with_reducible show wpAny _ _ (call (Value.ref 107) [Value.ref _]) _ _ _); k_dflt (refine' costs_use ?r18_B ?r18_F ?r18_X ?r18_N ?r18_T ?r18_hk ?r18_hd ?r18_hu (fun o' => ?r18_U) ?r18_hi ?r18_hJ ?r18_hb ?_; (case r18_B => k_asm); (case r18_F => k_asm); (case r18_X => k_asm); (case r18_N => k_asm); (case r18_T => k_asm); (case r18_hk => first | exact rfl | assumption); (case r18_hd => ktr_room); (case r18_hu => ktr_units); (case r18_U => k_upd); (case r18_hi => assumption); (case r18_hJ => assumption); (case r18_hb => omega)); intro r_l' r_us' r_ms' r_k' r_vs' r_n' r_ns' r_h' r_tk' r_l1 r_hI' r_hm8' r_hm20' r_hJ'' r_hJ' r_F' r_N'; (try k_lt r_l1); (try dsimp only at r_N'); (try k_sweep)))
  k_with "call ref" => ((k_here; (with_reducible show wpAny _ _ (call (Value.ref 114) [Value.ref _, Value.ref _]) _ _ _); k_dflt (refine' latest_con ?r19_B ?r19_F ?r19_X ?r19_N ?r19_T ?r19_hk ?r19_hd ?r19_hu ?r19_hc ?r19_ht ?r19_ci ?r19_ti ?r19_b1 ?r19_b2 ?_; (case r19_B => k_asm); (case r19_F => k_asm); (case r19_X => k_asm); (case r19_N => k_asm); (case r19_T => k_asm); (case r19_hk => first | exact rfl | assumption); (case r19_hd => ktr_room); (case r19_hu => ktr_units); (case r19_hc => k_mem); (case r19_ht => k_mem); (case r19_ci => assumption); (case r19_ti => assumption); (case r19_b1 => k_extra "there"); (case r19_b2 => omega)); intro r_v' r_h' r_tk' r_hv' r_F' r_N'; (try k_sweep); k_extra "latest"))
  k_with "call ref" => ((k_here; (with_reducible show wpAny _ _ (call (Value.ref 121) [Value.ref _, Value.ref _]) _ _ _); k_dflt (refine' waiting_con ?r20_B ?r20_F ?r20_X ?r20_N ?r20_T ?r20_hk ?r20_hd ?r20_hu ?r20_hc ?r20_ht ?r20_ci ?r20_ti ?r20_b1 ?r20_b2 ?r20_b3 ?_; (case r20_B => k_asm); (case r20_F => k_asm); (case r20_X => k_asm); (case r20_N => k_asm); (case r20_T => k_asm); (case r20_hk => first | exact rfl | assumption); (case r20_hd => ktr_room); (case r20_hu => ktr_units); (case r20_hc => k_mem); (case r20_ht => k_mem); (case r20_ci => assumption); (case r20_ti => assumption); (case r20_b1 => k_extra "there"); (case r20_b2 => omega); (case r20_b3 => first | omega | k_extra "therelen")); intro r_f' r_fvs' r_nf' r_h' r_tk' r_l1 r_hI' r_F' r_N'; (try simp only [List.forall_mem_cons] at r_l1); (try k_sweep); (try k_extra "waited")))
  k_with "call ref" => ((k_here; (with_reducible show wpAny _ _ (call (Value.ref 37) [Value.ref _, Value.int _ _]) _ _ _); (try k_extra "ahead"); k_dflt (refine' at_use ?r21_B ?r21_F ?r21_X ?r21_N ?r21_T ?r21_hk ?r21_hd ?r21_hu ?r21_hx ?r21_hdx ?r21_hc (fun o' => ?r21_U) ?r21_n1 ?r21_n2 ?r21_n3 ?r21_qi ?r21_ci ?r21_b0 ?r21_b1 ?r21_b2 ?r21_b3 ?r21_b4 ?r21_b5 ?_ ?_; (case r21_B => k_asm); (case r21_F => k_asm); (case r21_X => k_asm); (case r21_N => k_asm); (case r21_T => k_asm); (case r21_hk => first | exact rfl | assumption); (case r21_hd => ktr_room); (case r21_hu => ktr_units); (case r21_hx => k_mem); (case r21_hdx => k_mem); (case r21_hc => k_mem); (case r21_U => k_upd); (case r21_n1 => omega); (case r21_n2 => omega); (case r21_n3 => omega); (case r21_qi => assumption); (case r21_ci => assumption); (case r21_b0 => omega); (case r21_b1 => omega); (case r21_b2 => first | omega | k_extra "fresh"); (case r21_b3 => first | assumption | k_extra "queue"); (case r21_b4 => first | omega | k_extra "qlen"); (case r21_b5 => omega)); k_extra "at"))
  k_with "call ref" => ((k_here; (with_reducible show wpAny _ _ (call (Value.ref 40) [Value.int _ _, Value.int _ _, Value.ref _, Value.int _ _]) _ _ _); k_dflt (refine near_new4 (by k_asm) (by k_asm) (by k_asm) (by k_asm) (by k_asm) (by first | exact rfl | assumption) (by ktr_room) (by first | ktr_units | (simp only [units_under_make]; ktr_units)) ?_); intro r_x' r_d' r_q' r_k1' r_k2' r_k3' r_k4' r_k5' r_t1' r_t2' r_t3' r_nd' r_nq' r_h' r_tk' r_l1 r_l2 r_l3 r_F' r_N'; (try k_lt r_l1); (try k_sweep)))
  k_with "call ref" => ((k_here; (with_reducible show wpAny _ _ (call (Value.ref 40) [Value.int _ _, Value.int _ _, Value.ref _]) _ _ _); k_dflt (refine near_new3 (by k_asm) (by k_asm) (by k_asm) (by k_asm) (by k_asm) (by first | exact rfl | assumption) (by ktr_room) (by first | ktr_units | (simp only [units_under_make]; ktr_units)) ?_); intro r_x' r_d' r_q' r_k1' r_k2' r_k3' r_k4' r_k5' r_t1' r_t2' r_t3' r_nd' r_nq' r_h' r_tk' r_l1 r_l2 r_l3 r_F' r_N'; (try k_lt r_l1); (try k_sweep)))
  k_with "exec For Tuple Attribute cons nil" => ((k_here; (rename Fr _ _ _ _ => r_lF'); (with_unfolding_all refine' For_turns r_lF' ?_; k_whole)))
  k_with "newTuple" => ((k_here; k_dflt (refine' newTup_L ?r42_k1 ?r42_k2 ?_; (case r42_k1 => k_asm); (case r42_k2 => k_asm); k_whole); intro r_l' r_h' r_F' r_N' r_l1; (try k_lt r_l1); (try k_sweep)))
  k_with "call builtin:list.append" => ((k_here; (with_reducible show wpAny _ _ (call (Value.builtin _) [Value.ref _, Value.ref _]) _ _ _); k_dflt (refine' append_any ?r43_k1 ?r43_k2 (fun o' => ?r43_k3) ?r43_hl ?_; (case r43_k1 => k_asm); (case r43_k2 => k_asm); (case r43_k3 => k_upd); (case r43_hl => omega); k_whole); intro r_h' r_un' r_F' r_N'; (try dsimp only at r_N'); (try k_sweep)))
  k_with "pyIter ref" => ((k_here; (with_reducible show wpAny _ _ (pyIter (Value.ref _)) (fun it s₂ => TurnsAt _ _ _ _ _ _ _ _ _ it s₂) _ _); k_extra "turns"))
  k_with "call ref" => ((k_here; (with_reducible show wpAny _ _ (call (Value.ref 82) [Value.int _ _, Value.ref _, Value.int _ _]) _ _ _); k_extra "ways"))
  k_with "call ref" => ((k_here; (with_reducible show wpAny _ _ (call (Value.ref 65) [Value.ref _, Value.int _ _]) _ _ _); k_extra "radd"))
  k_with "setItem ref int" => ((k_here; (with_reducible show wpAny _ _ (setItem (Value.ref _) (Value.int _ _) (Value.int _ _)) _ _ _); k_dflt (refine' set_ints ?r64_k1 ?r64_k2 (fun o' => ?r64_k3) ?r64_hi ?r64_h0 ?r64_h1 ?r64_hl ?_; (case r64_k1 => k_asm); (case r64_k2 => k_asm); (case r64_k3 => k_upd); (case r64_hi => exact (IntsAre.cons _ _ (IntsAre.cons _ _ (IntsAre.cons _ _ (IntsAre.cons _ _ (IntsAre.cons _ _ (IntsAre.cons _ _ (IntsAre.cons _ _ (IntsAre.cons _ _ (IntsAre.cons _ _ (IntsAre.cons _ _ (IntsAre.cons _ _ (IntsAre.cons _ _ (IntsAre.cons _ _ (IntsAre.cons _ _ (IntsAre.cons _ _ (IntsAre.cons _ _ (IntsAre.cons _ _ (IntsAre.cons _ _ (IntsAre.cons _ _ IntsAre.nil)))))))))))))))))))); (case r64_h0 => omega); (case r64_h1 => (simp only [List.length_cons, List.length_nil]; omega)); (case r64_hl => (simp only [List.length_cons, List.length_nil]; omega)); k_whole); intro r_h' r_us' r_hI' r_F' r_N'; (try dsimp only at r_N'); (try k_sweep)))
  k_with "binaryOp Mult int int" => ((k_here; k_dflt (refine mul_len (by omega) (by split; exact .inr rfl; exact .inl rfl) ?_); intro r_v' r_t' r_hv'))
  k_with "subscriptTail" => ((k_here; (with_reducible show wpAny _ _ (subscriptTail _ _ (Value.ref _) (Value.int _ _)) _ _ _); k_dflt (refine' item_lit ?r66_N ?r66_hm ?r66_hi ?r66_h0 ?r66_h1 ?r66_he ?_; (case r66_N => k_asm); (case r66_hm => k_mem); (case r66_hi => first | assumption | exact (IntsAre.cons _ _ (IntsAre.cons _ _ (IntsAre.cons _ _ (IntsAre.cons _ _ IntsAre.nil))))); (case r66_h0 => decide); (case r66_h1 => decide); (case r66_he => exact rfl)); intro r_t'))
  k_with "subscriptTail Name Constant ref int" => ((k_here; (with_reducible show wpAny _ _ (subscriptTail _ _ (Value.ref _) (Value.int _ _)) _ _ _); k_dflt (refine' item_lit ?r67_N ?r67_hm ?r67_hi ?r67_h0 ?r67_h1 ?r67_he ?_; (case r67_N => k_asm); (case r67_hm => k_mem); (case r67_hi => first | assumption | exact (IntsAre.cons _ _ (IntsAre.cons _ _ (IntsAre.cons _ _ (IntsAre.cons _ _ IntsAre.nil))))); (case r67_h0 => decide); (case r67_h1 => decide); (case r67_he => exact rfl)); intro r_t'))
  refine wpAny_call ?_
  walk_at "ENTER"
  case kS => exact fun p hp => (List.mem_singleton.mp hp) ▸ hj
  case kPost => exact fun L' v sub' => v = .bool true
  case kRet =>
    rintro L' r sub' h' tk' hlt F' hs hn _ rfl
    exact ret h' tk' F'
  case kBody =>
    clear ret B F X₀ N T hj
    intro g' L' h' tk' F' N' B' X' T' _
    try dsimp only
    k_fold
    k_with "ways" => (
      (k_dflt (refine init_use (by k_asm) (by k_asm) (by k_asm) (by k_asm) (by k_asm) (by first | exact rfl | assumption) (by ktr_room) (by ktr_units) (by k_mem) (by assumption) (prices_ok (by omega)) (by omega) (by omega) ?_));
      intro x dx c pc kd cvs nc ms pcs npc S kl P nd e1 e2 e3 e4 e5 e6 h8 tk8 hdx hcv hRo F8 N8;
      (try simp only [List.forall_mem_cons] at hdx);
      (try simp only [List.nil_append, List.cons_append] at N8);
      (try k_sweep); (try k_fold))
    k_with "pyIter ref" => (
      (rename Fr _ _ _ _ => lF'); (rename News _ _ _ _ => lN'); (rename IsRange _ _ _ _ _ _ _ _ => rgX);
      (k_dflt (refine' runs_loopW (Pm := w.params) (x := x) (dx := dx) (c := c) (pc := pc) (kd := kd) (cvs := cvs) (nc := nc) (ms := ms) (pcs := pcs) (npc := npc) (S := S) (kl := kl) (P := P) (fx := [(_, listOf [_, _, _, _].toArray _)]) lF' lN' (sub_cons ?a1 (sub_cons ?a2 (sub_cons ?a3 (sub_cons ?a4 (sub_cons ?a5 (sub_cons ?a6 ?a7)))))) rgX rfl rfl rfl (small_one (by omega) (by omega) (by omega) (by omega)) (rangeSize_nat _ _) hcv (hRo.at (by omega)) (List.forall_mem_cons.mpr ⟨noIter_list _ _, List.forall_mem_nil _⟩) ?turn ?done));
      (case' a1 => k_dflt k_memK);
      (case' a2 => k_dflt k_memK);
      (case' a3 => k_dflt k_memK);
      (case' a4 => k_dflt k_memK);
      (case' a5 => k_dflt k_memK);
      (case' a6 => k_dflt k_memK);
      (case' a7 => (k_dflt (intro p hp; (repeat (first | exact hp | refine List.Mem.tail _ ?_)))));
      clear lF' lN';
      (case' turn => (
        intro cvs nc ms pcs npc S kl P i t u h tk own hi9 hoff hcv hRo kFr kNews;
        (try dsimp only [runLed] at kNews);
        (try simp only [List.nil_append, List.cons_append] at kNews);
        (try k_fold)));
      (case' done => (
        intro cvs nc ms pcs npc S kl P u h tk hcv hRoF kFr kNews;
        (try dsimp only [runLed] at kNews);
        (try simp only [List.nil_append, List.cons_append] at kNews);
        (try k_fold))))
    -- ROWS2
    k_with "pyIter ref" => (
      (have hStop := hRoF);
      (have hAb := runs_above hRoF);
      (rename Fr _ _ _ _ => lF'); (rename News _ _ _ _ => lN'); (rename IsRange _ _ _ _ _ _ _ _ => rgX);
      (first
        |
        (
        (rename ((_ : Int) = 0) => hz9); (rw [nt_one hz9] at lN');
        (k_dflt (refine' rr_loop3 (x := x) (dx := dx) (c := c) (pc := pc) (kd := kd) (cvs := cvs) (nc := nc) (ms := ms) (pcs := pcs) (npc := npc) (S := S) (kl := kl) (P := P) (prs := [_, _, _, _]) ?rk1 ?rk2 ?rk3 ?rk4 ?rk5 ?rk6 lF' rfl rfl rfl rfl lN' (sub_cons ?rq1 (sub_cons ?rq2 (sub_cons ?rq3 (sub_cons ?rx (sub_cons ?rdx (sub_cons ?rc (sub_cons ?rpc (sub_cons ?rpp (sub_cons ?rhd (sub_cons ?rt1 (sub_cons ?rt2 (sub_cons ?rt3 (sub_cons ?rX1 (sub_cons ?rX2 (sub_cons ?rX3 (sub_cons ?rD1 (sub_cons ?rD2 (sub_cons ?rD3 ?rrest)))))))))))))))))) rgX rfl (small_one (by omega) (by omega) (by omega) (by omega)) (rangeSize_nat _ _) ?rnm hcv hRoF ?rmn (IntsAre.cons _ _ (IntsAre.cons _ _ (IntsAre.cons _ _ (IntsAre.cons _ _ IntsAre.nil)))) ?rp0 ?rp1 ?rp2 ?rp3 hz9 ?rpd ?rcd ?ro1 ?roK ?rdone));
        (case' rk1 => k_asm);
        (case' rk2 => k_asm);
        (case' rk3 => k_asm);
        (case' rk4 => first | exact rfl | assumption);
        (case' rk5 => ktr_room);
        (case' rk6 => ktr_units);
        (case' rx => k_dflt k_memK);
        (case' rdx => k_dflt k_memK);
        (case' rc => k_dflt k_memK);
        (case' rpc => k_dflt k_memK);
        (case' rpp => k_dflt k_memK);
        (case' rhd => k_dflt k_memK);
        (case' rt1 => k_dflt k_memK);
        (case' rt2 => k_dflt k_memK);
        (case' rt3 => k_dflt k_memK);
        (case' rX1 => k_dflt k_memK);
        (case' rX2 => k_dflt k_memK);
        (case' rX3 => k_dflt k_memK);
        (case' rD1 => k_dflt k_memK);
        (case' rD2 => k_dflt k_memK);
        (case' rD3 => k_dflt k_memK);
        (case' rq1 => k_dflt k_memK);
        (case' rq2 => k_dflt k_memK);
        (case' rq3 => k_dflt k_memK);
        (case' rrest => (k_dflt (intro p hp; (repeat (first | exact hp | refine List.Mem.tail _ ?_)))));
        clear lF' lN';
        (case' rnm => omega);
        (case' rp0 => omega);
        (case' rp1 => omega);
        (case' rp2 => omega);
        (case' rp3 => omega);
        (case' rpd => omega);
        (case' rcd => omega);
        (case' rmn => exact ⟨by omega, by omega⟩);
        (case' ro1 => (refine ⟨?_, ?_, ?_, ?_, ?_, ?_, ?_, ?_, ?_, ?_, ?_, ?_⟩ <;> first | assumption | omega));
        (case' roK => tbn_find);
        (case' rdone => (
          intro u h tk kFr;
          (have kNews := news_nil kFr);
          (try k_fold))))
        |
        (
        (rename (¬ (_ : Int) = 0) => hz9); (rw [nt_zero hz9] at lN');
        (k_dflt (refine' rr_loop1 (x := x) (dx := dx) (c := c) (pc := pc) (kd := kd) (cvs := cvs) (nc := nc) (ms := ms) (pcs := pcs) (npc := npc) (S := S) (kl := kl) (P := P) (prs := [_, _, _, _]) ?sk1 ?sk2 ?sk3 ?sk4 ?sk5 ?sk6 lF' rfl rfl rfl rfl lN' (sub_cons ?sq1 (sub_cons ?sx (sub_cons ?sdx (sub_cons ?sc (sub_cons ?spc (sub_cons ?spp (sub_cons ?shd (sub_cons ?st1 (sub_cons ?sX1 (sub_cons ?sD1 ?srest)))))))))) rgX rfl (small_one (by omega) (by omega) (by omega) (by omega)) (rangeSize_nat _ _) ?snm hcv hRoF ?smn (IntsAre.cons _ _ (IntsAre.cons _ _ (IntsAre.cons _ _ (IntsAre.cons _ _ IntsAre.nil)))) ?sp0 ?sp1 ?sp2 ?sp3 hz9 ?spd ?scd ?so1 ?soK ?sdone));
        (case' sk1 => k_asm);
        (case' sk2 => k_asm);
        (case' sk3 => k_asm);
        (case' sk4 => first | exact rfl | assumption);
        (case' sk5 => ktr_room);
        (case' sk6 => ktr_units);
        (case' sx => k_dflt k_memK);
        (case' sdx => k_dflt k_memK);
        (case' sc => k_dflt k_memK);
        (case' spc => k_dflt k_memK);
        (case' spp => k_dflt k_memK);
        (case' shd => k_dflt k_memK);
        (case' st1 => k_dflt k_memK);
        (case' sX1 => k_dflt k_memK);
        (case' sD1 => k_dflt k_memK);
        (case' sq1 => k_dflt k_memK);
        (case' srest => (k_dflt (intro p hp; (repeat (first | exact hp | refine List.Mem.tail _ ?_)))));
        clear lF' lN';
        (case' snm => omega);
        (case' sp0 => omega);
        (case' sp1 => omega);
        (case' sp2 => omega);
        (case' sp3 => omega);
        (case' spd => omega);
        (case' scd => omega);
        (case' smn => exact ⟨by omega, by omega⟩);
        (case' so1 => (refine ⟨?_, ?_, ?_, ?_⟩ <;> first | assumption | omega));
        (case' soK => tbn_find);
        (case' sdone => (
          intro u h tk kFr;
          (have kNews := news_nil kFr);
          (try k_fold))))))
    -- END2
    k_with "radd" => (
      (k_dflt (refine runsadd_use (cvs := cvs) (nc := nc) (ms := ms) (pcs := pcs) (npc := npc) (S := S) (kl := kl) (P := P) (fx := [(_, _)]) (own := own) (by k_asm) (by k_asm) (by k_asm) (by k_asm) (by k_asm) (by first | exact rfl | assumption) (by ktr_room) (by ktr_units) hcv (by assumption) (prices_ok (by omega)) hRo (by omega) (List.forall_mem_cons.mpr ⟨by (try dsimp only); omega, List.forall_mem_nil _⟩) hoff ?_));
      intro t8 o8 cvs8 nc8 npc8 ms8 S8 kl8 h8 tk8 hcv8 hRo8 F8 N8;
      (try dsimp only [runLed] at N8);
      (try simp only [List.nil_append, List.cons_append] at N8);
      (try k_sweep); (try k_fold))
    k_steps
    all_goals first
      | exact ⟨⟨_, fun p hp => hp, rfl⟩⟩
      | exact runs_end (fx := [(_, _)]) (by assumption) N8 hcv8 hRo8 (List.forall_mem_cons.mpr ⟨noIter_list _ _, List.forall_mem_nil _⟩) (noIter_dict _ _) (by intro z h1; first | rfl | (simp [h1]; done)) (by omega)

end

end
section
section
variable {w : World} {A₀ : Around} {s : Shared} {base h₀ : Heap} {outer : List Env} {L : Addr} {m mg mb : Str → Option Value} {news : List (Addr × Obj)} {loose : List Str} {mean : ExcName → Option Value}
  {dp un : Nat} {gd : Option (List Code)} {cn : Str} {cs : Scope} {a : Addr} {ccd : Value} {cl : List (Str × Addr)} {Q E : Value → Shared → Prop}
theorem nearright_use {j : Addr} {vs : List Value} {n : Nat} {ns : List Int} {news' : Obj → List (Addr × Obj)}
    (B : Below A₀ base outer h₀) (F : Fr h₀ L s.heap m) (X₀ : (hd.heap_39 w.params).In h₀) (N : News h₀ L s.heap news) (T : Top hd.view_39 loose mean mg mb h₀)
    (hk : cs.kind = .function) (hdp : dp < 320) (hun : un < 3000)
    (U : ∀ o', Upd j (listOf vs.toArray n) o' news (news' o')) (hi : IntsAre vs ns) (hJ : JarOk 100 ns)
    (ret : ∀ vs' n' ns' h' tk', IntsAre vs' ns' → JarOk 400 ns' → Fr h₀ L h' m → News h₀ L h' (news' (listOf vs'.toArray n')) → Q (.bool true) { s with heap := h', toks := tk' }) :
    wpAny (model PySem.Challenge.rw_tk0114_01.row.prog w) (ktrTop dp un gd cn cs L a ccd cl outer) (call (.ref 126) [.ref j]) Q E s :=
  nearright_con B F X₀ N T hk hdp hun (updMem (U default)) hi hJ fun vs' n' ns' h' tk' a1 a2 F' hn ho => ret vs' n' ns' h' tk' a1 a2 F' (newsUpd (U _) hn ho)
theorem jar_ok {g mm : Int} (h1 : 0 ≤ g) (h2 : 0 ≤ mm) (h3 : mm < 10007) : JarOk 100 [g, mm, 0] := ⟨g, mm, 0, rfl, h1, h2, h3, Int.le_refl _, by decide⟩
end
theorem law_holds : PySem.Challenge.rw_tk0114_01.Holds := by
  k_with "ENTER" => (k_dflt (refine' code_sub ?kPost ?k1 ?k2 ?k3 ?k4 ?k5 ?kA ?kF ?kK ?k6 ?k7 ?k8 ?k9 ?kB ?kS ?kBody ?kRet ?c5 ?c2 ?c3 ?c4; (case kA => exact rfl); (case kF => exact rfl); (case kK => k_asm); (case k1 => k_asm); (case k2 => k_asm); (case k3 => k_asm); (case k4 => k_asm); (case k5 => k_asm); (case k6 => k_is); (case k7 => k_is); (case k8 => ktr_room); (case k9 => first | exact BindsTo.of_eq (rfl : bindArgs _ _ = pure [(_, _)]) | exact BindsTo.of_eq (rfl : bindArgs _ _ = pure [(_, _), (_, _)]) | exact BindsTo.of_eq (rfl : bindArgs _ _ = pure [(_, _), (_, _), (_, _)]) | exact BindsTo.of_eq (rfl : bindArgs _ _ = pure [(_, _), (_, _), (_, _), (_, _)]) | exact BindsTo.of_eq (rfl : bindArgs _ _ = pure [(_, _), (_, _), (_, _), (_, _), (_, _)]) | exact BindsTo.of_eq rfl); (case c5 => decide); (case kB => exact locs rfl); (case c2 => exact rfl); (case c3 => exact rfl); (case c4 => exact rfl)))
  k_with "RetP" => (((try dsimp only [flv]); refine RetP.owed (by k_asm) (by k_asm) ?_))
  k_with "newList" => ((k_here; k_dflt (refine' newList_L ?r3_k1 ?r3_k2 ?_; (case r3_k1 => k_asm); (case r3_k2 => k_asm); k_whole); intro r_l' r_h' r_F' r_N' r_l1; (try k_lt r_l1); (try k_sweep)))
  k_with "call builtin:list.append" => ((k_here; (with_reducible show wpAny _ _ (call (Value.builtin _) [Value.ref _, Value.int _ _]) _ _ _); k_dflt (refine' append_ints ?r4_k1 ?r4_k2 (fun o' => ?r4_k3) ?r4_hi ?r4_hl ?_; (case r4_k1 => k_asm); (case r4_k2 => k_asm); (case r4_k3 => k_upd); (case r4_hi => assumption); (case r4_hl => first | omega | (simp only [List.length_append, List.length_cons, List.length_nil] at *; omega)); k_whole); intro r_h' r_us' r_un' r_hI' r_F' r_N'; (try dsimp only at r_N'); (try k_sweep)))
  k_with "FreePost" => ((dsimp only [FreePost]))
  k_with "NOITER" => ((repeat' (first | exact List.forall_mem_nil _ | (refine List.forall_mem_cons.mpr ⟨?_, ?_⟩) | exact noIter_list _ _ | exact noIter_inst _ _ | exact noIter_dict _ _ | exact noIter_tup _ _ | exact noIter_cell (by assumption))))
  k_with "OWNIN" => ((intro r_p r_hp; k_ownIn))
  k_with "subscriptTail" => ((k_here; (with_reducible show wpAny _ _ (subscriptTail _ _ (Value.ref _) (Value.int _ _)) _ _ _); k_dflt (refine' item_bnd ?r8_N ?r8_hm ?r8_hi ?r8_h0 ?r8_h1 ?r8_h2 ?_; (case r8_N => k_asm); (case r8_hm => k_mem); (case r8_hi => assumption); (case r8_h0 => first | omega | k_extra "low"); (case r8_h1 => first | omega | k_extra "high"); (case r8_h2 => omega)); intro r_t'))
  k_with "ENTERC" => (k_dflt (refine' code_subC ?kPost ?k1 ?k2 ?k3 ?k4 ?k5 ?kA ?kF ?kK ?k6 ?k7 ?k8 ?k9 ?kB ?kD ?kS ?kBody ?kRet ?c2 ?c3 ?c4; (case kA => exact rfl); (case kF => exact rfl); (case kK => k_asm); (case k1 => k_asm); (case k2 => k_asm); (case k3 => k_asm); (case k4 => k_asm); (case k5 => k_asm); (case k6 => k_is); (case k7 => k_is); (case k8 => ktr_room); (case k9 => first | exact BindsTo.of_eq (rfl : bindArgs _ _ = pure [(_, _)]) | exact BindsTo.of_eq (rfl : bindArgs _ _ = pure [(_, _), (_, _)]) | exact BindsTo.of_eq (rfl : bindArgs _ _ = pure [(_, _), (_, _), (_, _)]) | exact BindsTo.of_eq (rfl : bindArgs _ _ = pure [(_, _), (_, _), (_, _), (_, _)]) | exact BindsTo.of_eq (rfl : bindArgs _ _ = pure [(_, _), (_, _), (_, _), (_, _), (_, _)]) | exact BindsTo.of_eq rfl); (case kB => exact rfl); (case kD => decide +kernel); (case c2 => exact rfl); (case c3 => exact rfl); (case c4 => exact rfl)))
  k_with "GROUNDC" => ((intro r_g' r_L' r_h' r_tk' r_cells' r_F' r_N' r_Y' r_l1 r_B' r_X' r_T' r_lN; k_lt r_l1; k_cells r_Y'; (try simp only [List.cons_append, List.nil_append] at r_N'); (try dsimp only)))
  k_with "call ref" => ((k_here; (with_reducible show wpAny _ _ (call (Value.ref 100) [Value.ref _, Value.int _ _]) _ _ _); k_dflt (refine' take_use ?r17_B ?r17_F ?r17_X ?r17_N ?r17_T ?r17_hk ?r17_hd ?r17_hu (fun o' => ?r17_U) ?r17_hi ?r17_hJ ?r17_hb ?r17_h5 ?r17_h6 ?_; (case r17_B => k_asm); (case r17_F => k_asm); (case r17_X => k_asm); (case r17_N => k_asm); (case r17_T => k_asm); (case r17_hk => first | exact rfl | assumption); (case r17_hd => ktr_room); (case r17_hu => ktr_units); (case r17_U => k_upd); (case r17_hi => assumption); (case r17_hJ => assumption); (case r17_hb => omega); (case r17_h5 => omega); (case r17_h6 => omega)); intro r_d' r_t' r_vs' r_n' r_ns' r_h' r_tk' r_hd1' r_hd2' r_hI' r_hJ' r_F' r_N'; (try dsimp only at r_N'); (try k_sweep)))
  k_with "call ref" => ((k_here; (with_reducible show wpAny _ _ (call (Value.ref 107) [Value.ref _]) _ _ _); k_dflt (refine' costs_use ?r18_B ?r18_F ?r18_X ?r18_N ?r18_T ?r18_hk ?r18_hd ?r18_hu (fun o' => ?r18_U) ?r18_hi ?r18_hJ ?r18_hb ?_; (case r18_B => k_asm); (case r18_F => k_asm); (case r18_X => k_asm); (case r18_N => k_asm); (case r18_T => k_asm); (case r18_hk => first | exact rfl | assumption); (case r18_hd => ktr_room); (case r18_hu => ktr_units); (case r18_U => k_upd); (case r18_hi => assumption); (case r18_hJ => assumption); (case r18_hb => omega)); intro r_l' r_us' r_ms' r_k' r_vs' r_n' r_ns' r_h' r_tk' r_l1 r_hI' r_hm8' r_hm20' r_hJ'' r_hJ' r_F' r_N'; (try k_lt r_l1); (try dsimp only at r_N'); (try k_sweep)))
  k_with "call ref" => ((k_here; (with_reducible show wpAny _ _ (call (Value.ref 114) [Value.ref _, Value.ref _]) _ _ _); k_dflt (refine' latest_con ?r19_B ?r19_F ?r19_X ?r19_N ?r19_T ?r19_hk ?r19_hd ?r19_hu ?r19_hc ?r19_ht ?r19_ci ?r19_ti ?r19_b1 ?r19_b2 ?_; (case r19_B => k_asm); (case r19_F => k_asm); (case r19_X => k_asm); (case r19_N => k_asm); (case r19_T => k_asm); (case r19_hk => first | exact rfl | assumption); (case r19_hd => ktr_room); (case r19_hu => ktr_units); (case r19_hc => k_mem); (case r19_ht => k_mem); (case r19_ci => assumption); (case r19_ti => assumption); (case r19_b1 => k_extra "there"); (case r19_b2 => omega)); intro r_v' r_h' r_tk' r_hv' r_F' r_N'; (try k_sweep); k_extra "latest"))
  k_with "call ref" => ((k_here; (with_reducible show wpAny _ _ (call (Value.ref 121) [Value.ref _, Value.ref _]) _ _ _); k_dflt (refine' waiting_con ?r20_B ?r20_F ?r20_X ?r20_N ?r20_T ?r20_hk ?r20_hd ?r20_hu ?r20_hc ?r20_ht ?r20_ci ?r20_ti ?r20_b1 ?r20_b2 ?r20_b3 ?_; (case r20_B => k_asm); (case r20_F => k_asm); (case r20_X => k_asm); (case r20_N => k_asm); (case r20_T => k_asm); (case r20_hk => first | exact rfl | assumption); (case r20_hd => ktr_room); (case r20_hu => ktr_units); (case r20_hc => k_mem); (case r20_ht => k_mem); (case r20_ci => assumption); (case r20_ti => assumption); (case r20_b1 => k_extra "there"); (case r20_b2 => omega); (case r20_b3 => first | omega | k_extra "therelen")); intro r_f' r_fvs' r_nf' r_h' r_tk' r_l1 r_hI' r_F' r_N'; (try simp only [List.forall_mem_cons] at r_l1); (try k_sweep); (try k_extra "waited")))
  k_with "call ref" => ((k_here; (with_reducible show wpAny _ _ (call (Value.ref 37) [Value.ref _, Value.int _ _]) _ _ _); (try k_extra "ahead"); k_dflt (refine' at_use ?r21_B ?r21_F ?r21_X ?r21_N ?r21_T ?r21_hk ?r21_hd ?r21_hu ?r21_hx ?r21_hdx ?r21_hc (fun o' => ?r21_U) ?r21_n1 ?r21_n2 ?r21_n3 ?r21_qi ?r21_ci ?r21_b0 ?r21_b1 ?r21_b2 ?r21_b3 ?r21_b4 ?r21_b5 ?_ ?_; (case r21_B => k_asm); (case r21_F => k_asm); (case r21_X => k_asm); (case r21_N => k_asm); (case r21_T => k_asm); (case r21_hk => first | exact rfl | assumption); (case r21_hd => ktr_room); (case r21_hu => ktr_units); (case r21_hx => k_mem); (case r21_hdx => k_mem); (case r21_hc => k_mem); (case r21_U => k_upd); (case r21_n1 => omega); (case r21_n2 => omega); (case r21_n3 => omega); (case r21_qi => assumption); (case r21_ci => assumption); (case r21_b0 => omega); (case r21_b1 => omega); (case r21_b2 => first | omega | k_extra "fresh"); (case r21_b3 => first | assumption | k_extra "queue"); (case r21_b4 => first | omega | k_extra "qlen"); (case r21_b5 => omega)); k_extra "at"))
  k_with "call ref" => ((k_here; (with_reducible show wpAny _ _ (call (Value.ref 40) [Value.int _ _, Value.int _ _, Value.ref _, Value.int _ _]) _ _ _); k_dflt (refine near_new4 (by k_asm) (by k_asm) (by k_asm) (by k_asm) (by k_asm) (by first | exact rfl | assumption) (by ktr_room) (by first | ktr_units | (simp only [units_under_make]; ktr_units)) ?_); intro r_x' r_d' r_q' r_k1' r_k2' r_k3' r_k4' r_k5' r_t1' r_t2' r_t3' r_nd' r_nq' r_h' r_tk' r_l1 r_l2 r_l3 r_F' r_N'; (try k_lt r_l1); (try k_sweep)))
  k_with "call ref" => ((k_here; (with_reducible show wpAny _ _ (call (Value.ref 40) [Value.int _ _, Value.int _ _, Value.ref _]) _ _ _); k_dflt (refine near_new3 (by k_asm) (by k_asm) (by k_asm) (by k_asm) (by k_asm) (by first | exact rfl | assumption) (by ktr_room) (by first | ktr_units | (simp only [units_under_make]; ktr_units)) ?_); intro r_x' r_d' r_q' r_k1' r_k2' r_k3' r_k4' r_k5' r_t1' r_t2' r_t3' r_nd' r_nq' r_h' r_tk' r_l1 r_l2 r_l3 r_F' r_N'; (try k_lt r_l1); (try k_sweep)))
  k_with "exec For Tuple Attribute cons nil" => ((k_here; (rename Fr _ _ _ _ => r_lF'); (with_unfolding_all refine' For_turns r_lF' ?_; k_whole)))
  k_with "newTuple" => ((k_here; k_dflt (refine' newTup_L ?r42_k1 ?r42_k2 ?_; (case r42_k1 => k_asm); (case r42_k2 => k_asm); k_whole); intro r_l' r_h' r_F' r_N' r_l1; (try k_lt r_l1); (try k_sweep)))
  k_with "call builtin:list.append" => ((k_here; (with_reducible show wpAny _ _ (call (Value.builtin _) [Value.ref _, Value.ref _]) _ _ _); k_dflt (refine' append_any ?r43_k1 ?r43_k2 (fun o' => ?r43_k3) ?r43_hl ?_; (case r43_k1 => k_asm); (case r43_k2 => k_asm); (case r43_k3 => k_upd); (case r43_hl => omega); k_whole); intro r_h' r_un' r_F' r_N'; (try dsimp only at r_N'); (try k_sweep)))
  k_with "pyIter ref" => ((k_here; (with_reducible show wpAny _ _ (pyIter (Value.ref _)) (fun it s₂ => TurnsAt _ _ _ _ _ _ _ _ _ it s₂) _ _); k_extra "turns"))
  k_with "call ref" => ((k_here; (with_reducible show wpAny _ _ (call (Value.ref 126) [Value.ref _]) _ _ _); k_extra "near"))
  k_with "call ref" => ((k_here; (with_reducible show wpAny _ _ (call (Value.ref 147) [Value.ref _]) _ _ _); k_extra "runs"))
  k_with "near" => (
    (k_dflt (refine nearright_use (by k_asm) (by k_asm) (by k_asm) (by k_asm) (by k_asm) (by first | exact rfl | assumption) (by first | ktr_room | (rw [depth_caller]; decide)) (by first | ktr_units | (rw [units_caller]; decide)) (fun o' => by k_upd) (IntsAre.cons _ _ (IntsAre.cons _ _ (IntsAre.cons _ _ IntsAre.nil))) (jar_ok (by omega) (by omega) (by omega)) ?_));
    intro vs8 n8 ns8 h8 tk8 hI8 hJ8 F8 N8; (try dsimp only at N8); (try k_sweep))
  k_with "runs" => (
    (k_dflt (refine runsright_con (by k_asm) (by k_asm) (by k_asm) (by k_asm) (by k_asm) (by first | exact rfl | assumption) (by first | ktr_room | (rw [depth_caller]; decide)) (by first | ktr_units | (rw [units_caller]; decide)) (by k_mem) hI8 hJ8 ?_));
    intro h8 tk8 F8; (try k_sweep))
  k_with "pyIter ref" => k_state (fun pre great mix => 0 ≤ great ∧ 0 ≤ mix ∧ mix < 10007) "great" "mix"
  refine hd ?_
  k_fill
  intro w s₀ s₁ mg mb G Y fa o pm cd doc dV kV ho hod hcd hD hmg hg args vals as hpre hlay hrd hwl hlo
  have KX := kIn_of Y
  have X := (Ground.X G).1
  have V := (Ground.X G).2
  refine Ground.open G ?_
  intro T B D TE TW
  try (refine guard_noD D (by decide +kernel) ?_; clear D)
  obtain ⟨_, _, M⟩ := bmod_of_top T
  have TA := at_of_top T
  try (obtain ⟨_, _, he, B0⟩ := based_of_top T rfl hmg ho hod; have he' : cd = _ := he; subst he'; clear he)
  clear hmg
  wrow_args hpre hlay hrd hwl hlo
  all_goals (
    first | refine callC_kw (enter_call ?_) | refine enter_call ?_ | refine callC_kw (enter_callW ?_) | refine enter_callW ?_
    w_top on
    try refine codeAny_mono ?_ (fun _ _ g => GoodW.toG g)
    have K0 := below_caller (Top.heap T)
    w_call any ho hod hcd hD T F
    clear hod TA
    k_drop)
  all_goals try k_fold
  k_steps
  all_goals (try k_data)
  all_goals w_report

end
end Mine
theorem PySem.Challenge.cw_tk0114_01_holds : PySem.Challenge.rw_tk0114_01.Holds := by
  exact Mine.law_holds
