import PyProof.Rows.All
import Wide.All
import OpenK.AllK
import Wide.FinOn
import PySem.Challenge.RW_rg0116_01
set_option Elab.async false
set_option maxRecDepth 100000
set_option rowWalk.seconds 0
/- plain lists, no program in sight -/
namespace Mine

/-- the words of a list of signs, with their places: runs of op signs, single marks -/
noncomputable def toks (op pu : Nat → Bool) : List Nat → Int → List (List Nat × Int)
  | [], _ => []
  | c :: r, p => if op c = true then ((c :: r).takeWhile op, p) :: toks op pu (r.dropWhile op) (p + ((c :: r).takeWhile op).length)
      else if pu c = true then ([c], p) :: toks op pu r (p + 1) else toks op pu r (p + 1)
termination_by l => l.length
decreasing_by
  all_goals simp only [List.length_cons]
  · exact Nat.lt_succ_of_le (List.dropWhile_sublist _).length_le
  · omega
  · omega

section
variable {op pu : Nat → Bool} {a : List Nat} {i j : Nat}
theorem drop_split (hj : j ≤ a.length) (hij : i ≤ j) : a.drop i = (a.drop i).take (j - i) ++ a.drop j := by
  have h := (List.take_append_drop (j - i) (a.drop i)).symm
  rw [List.drop_drop, show i + (j - i) = j by omega] at h
  exact h
theorem mem_run (hj : j ≤ a.length) (hop : ∀ k, i ≤ k → k < j → op (a.getD k 0) = true) : ∀ c ∈ (a.drop i).take (j - i), op c = true := by
  intro c hc
  obtain ⟨k, hk, rfl⟩ := List.mem_iff_getElem.mp hc
  have hk' : k < j - i := by
    have := List.length_take_le (j - i) (a.drop i)
    omega
  have h1 : i + k < a.length := by omega
  have h2 := hop (i + k) (by omega) (by omega)
  rw [List.getD_eq_getElem?_getD, List.getElem?_eq_getElem h1, Option.getD_some] at h2
  rw [List.getElem_take, List.getElem_drop]
  exact h2
theorem takeWhile_run {l r : List Nat} (h : ∀ c ∈ l, op c = true) (hr : ∀ c, r.head? = some c → op c = false) : (l ++ r).takeWhile op = l ∧ (l ++ r).dropWhile op = r := by
  induction l with
  | nil =>
    cases r with
    | nil => exact ⟨rfl, rfl⟩
    | cons c r =>
      have := hr c rfl
      simp [this]
  | cons x l ih =>
    have hx := h x (.head _)
    have ⟨h1, h2⟩ := ih fun c hc => h c (.tail _ hc)
    simp [hx, h1, h2]

/-- a run from i to j -/
theorem toks_run (hj : j ≤ a.length) (hij : i < j) (hop : ∀ k, i ≤ k → k < j → op (a.getD k 0) = true) (hend : j < a.length → op (a.getD j 0) = false) (p : Int) :
    toks op pu (a.drop i) p = ((a.drop i).take (j - i), p) :: toks op pu (a.drop j) (p + (j - i : Nat)) := by
  have hl := mem_run hj hop
  have hsp := drop_split hj (Nat.le_of_lt hij)
  have hr : ∀ c, (a.drop j).head? = some c → op c = false := by
    intro c hc
    rw [List.head?_drop] at hc
    obtain ⟨h1, h2⟩ := List.getElem?_eq_some_iff.mp hc
    have := hend h1
    rw [List.getD_eq_getElem?_getD, List.getElem?_eq_getElem h1, Option.getD_some, h2] at this
    exact this
  have hlen : ((a.drop i).take (j - i)).length = j - i := by
    rw [List.length_take, List.length_drop]; omega
  obtain ⟨c, l, hcl⟩ : ∃ c l, (a.drop i).take (j - i) = c :: l := by
    cases h : (a.drop i).take (j - i) with
    | nil => rw [h] at hlen; simp at hlen; omega
    | cons c l => exact ⟨c, l, rfl⟩
  have ⟨h1, h2⟩ := takeWhile_run (r := a.drop j) hl hr
  rw [hcl] at h1 h2 hl hsp hlen
  have hc : op c = true := hl c (.head _)
  rw [List.cons_append] at h1 h2 hsp
  rw [hcl, hsp, toks, if_pos hc, h1]
  have h3 : (l ++ a.drop j).dropWhile op = a.drop j := by
    rw [List.dropWhile_cons_of_pos hc] at h2
    exact h2
  rw [h3, hlen]
theorem drop_cons_getD (hi : i < a.length) : a.drop i = a.getD i 0 :: a.drop (i + 1) := by
  rw [List.drop_eq_getElem_cons hi, List.getD_eq_getElem?_getD, List.getElem?_eq_getElem hi, Option.getD_some]
theorem toks_mark (hi : i < a.length) (h1 : op (a.getD i 0) = false) (h2 : pu (a.getD i 0) = true) (p : Int) : toks op pu (a.drop i) p = ([a.getD i 0], p) :: toks op pu (a.drop (i + 1)) (p + 1) := by
  rw [drop_cons_getD hi, toks, if_neg (by rw [h1]; decide), if_pos h2]
theorem toks_skip (hi : i < a.length) (h1 : op (a.getD i 0) = false) (h2 : pu (a.getD i 0) = false) (p : Int) : toks op pu (a.drop i) p = toks op pu (a.drop (i + 1)) (p + 1) := by
  rw [drop_cons_getD hi, toks, if_neg (by rw [h1]; decide), if_neg (by rw [h2]; decide)]
theorem toks_end (hi : a.length ≤ i) (p : Int) : toks op pu (a.drop i) p = [] := by
  rw [List.drop_eq_nil_of_le hi, toks]
end
end Mine
namespace Mine
section
variable {op pu : Nat → Bool}
theorem drop_len (l : List Nat) : (l.dropWhile op).length ≤ l.length := (List.dropWhile_sublist _).length_le
theorem take_len (l : List Nat) : (l.takeWhile op).length ≤ l.length := (List.takeWhile_sublist _).length_le
theorem toks_bound : ∀ (n : Nat) (l : List Nat) (p : Int), l.length ≤ n → (toks op pu l p).length ≤ l.length ∧ ∀ x ∈ toks op pu l p, x.1.length ≤ l.length := by
  intro n
  induction n with
  | zero =>
    intro l p h
    cases l with
    | nil => rw [toks]; exact ⟨Nat.le_refl _, fun x hx => nomatch hx⟩
    | cons c r => exact absurd h (Nat.not_succ_le_zero _)
  | succ n ih =>
    intro l p h
    cases l with
    | nil => rw [toks]; exact ⟨Nat.le_refl _, fun x hx => nomatch hx⟩
    | cons c r =>
      have hr : r.length ≤ n := Nat.le_of_succ_le_succ h
      have h1 := drop_len (op := op) r
      have h2 := take_len (op := op) (c :: r)
      have hc : (c :: r).length = r.length + 1 := rfl
      rw [toks]
      split
      · obtain ⟨a, b⟩ := ih (r.dropWhile op) (p + ((c :: r).takeWhile op).length) (Nat.le_trans h1 hr)
        refine ⟨?_, fun x hx => ?_⟩
        · rw [List.length_cons, hc]; omega
        · rcases List.mem_cons.mp hx with rfl | hx
          · exact h2
          · have := b x hx; omega
      · split
        · obtain ⟨a, b⟩ := ih r (p + 1) hr
          refine ⟨?_, fun x hx => ?_⟩
          · rw [List.length_cons, hc]; omega
          · rcases List.mem_cons.mp hx with rfl | hx
            · show 1 ≤ _; omega
            · have := b x hx; omega
        · obtain ⟨a, b⟩ := ih r (p + 1) hr
          refine ⟨?_, fun x hx => ?_⟩
          · omega
          · have := b x hx; omega
end
end Mine
namespace Mine
section
variable {op pu : Nat → Bool} {a : List Nat}
/-- the places from i on of which p says yes -/
noncomputable def filt (n : Nat) (p : Nat → Bool) (i : Nat) : List Nat := (List.range' i (n - i)).filter p
theorem filt_end {n i : Nat} {p : Nat → Bool} (h : n ≤ i) : filt n p i = [] := by
  unfold filt
  rw [Nat.sub_eq_zero_of_le h]
  rfl
theorem filt_succ {n i : Nat} {p : Nat → Bool} (h : i < n) : filt n p i = if p i = true then i :: filt n p (i + 1) else filt n p (i + 1) := by
  unfold filt
  rw [show n - i = (n - (i + 1)) + 1 by omega, List.range'_succ, List.filter_cons]
theorem filt_true {n i : Nat} {p : Nat → Bool} (h : i < n) (hp : p i = true) : filt n p i = i :: filt n p (i + 1) := by rw [filt_succ h, if_pos hp]
theorem filt_false {n i : Nat} {p : Nat → Bool} (h : i < n) (hp : p i = false) : filt n p i = filt n p (i + 1) := by rw [filt_succ h, if_neg (by rw [hp]; decide)]
theorem filt_skip {n : Nat} {p : Nat → Bool} : ∀ (d i : Nat), i + d ≤ n → (∀ k, i ≤ k → k < i + d → p k = false) → filt n p i = filt n p (i + d)
  | 0, i, _, _ => rfl
  | d + 1, i, h, hp => by
    rw [filt_false (by omega) (hp i (Nat.le_refl _) (by omega)), filt_skip d (i + 1) (by omega) (fun k h1 h2 => hp k (by omega) (by omega))]
    congr 1
    omega
noncomputable abbrev cc (a : List Nat) (k : Nat) : Nat := a.getD k 0
noncomputable def pBeg (op : Nat → Bool) (a : List Nat) (k : Nat) : Bool := op (cc a k) && (k == 0 || !op (cc a (k - 1)))
noncomputable def pEnd (op : Nat → Bool) (a : List Nat) (k : Nat) : Bool := op (cc a k) && (k + 1 == a.length || !op (cc a (k + 1)))
noncomputable def alones (pu : Nat → Bool) (a : List Nat) (i : Nat) : List Nat := filt a.length (fun k => pu (cc a k)) i
noncomputable def begs (op : Nat → Bool) (a : List Nat) (i : Nat) : List Nat := filt a.length (pBeg op a) i
noncomputable def ends (op : Nat → Bool) (a : List Nat) (i : Nat) : List Nat := (filt a.length (pEnd op a) i).map (· + 1)
/-- the pieces as the law cuts them, from i on -/
noncomputable def pieces (op pu : Nat → Bool) (a : List Nat) (i : Nat) : List (Int × List Nat) :=
  (alones pu a i).map (fun (k : Nat) => ((k : Int), [cc a k])) ++ ((begs op a i).zip (ends op a i)).map (fun (p : Nat × Nat) => ((p.1 : Int), (a.drop p.1).take (p.2 - p.1)))
theorem run_end : ∀ (d i : Nat), i + d = a.length → ∃ j, i ≤ j ∧ j ≤ a.length ∧ (∀ k, i ≤ k → k < j → op (cc a k) = true) ∧ (j < a.length → op (cc a j) = false)
  | 0, i, h => ⟨i, Nat.le_refl _, by omega, fun k h1 h2 => by omega, fun h3 => by omega⟩
  | d + 1, i, h => by
    cases ho : op (cc a i) with
    | false => exact ⟨i, Nat.le_refl _, by omega, fun k h1 h2 => by omega, fun _ => ho⟩
    | true =>
      obtain ⟨j, h1, h2, h3, h4⟩ := run_end d (i + 1) (by omega)
      refine ⟨j, by omega, h2, fun k k1 k2 => ?_, h4⟩
      by_cases e : k = i
      · rw [e]; exact ho
      · exact h3 k (by omega) k2
noncomputable abbrev swp (p : List Nat × Int) : Int × List Nat := (p.2, p.1)
theorem toks_pieces (hdis : ∀ k, k < a.length → op (cc a k) = true → pu (cc a k) = false) : ∀ (d i : Nat), i + d ≥ a.length → i ≤ a.length → (i = 0 ∨ op (cc a (i - 1)) = false ∨ i = a.length ∨ op (cc a i) = false) →
    ((toks op pu (a.drop i) i).map swp).Perm (pieces op pu a i) := by
  intro d
  induction d with
  | zero =>
    intro i hd hi hb
    obtain rfl : i = a.length := by omega
    rw [toks_end (Nat.le_refl _)]
    unfold pieces alones begs ends
    rw [filt_end (Nat.le_refl _), filt_end (Nat.le_refl _), filt_end (Nat.le_refl _)]
    exact List.Perm.refl _
  | succ d ih0 =>
    intro i hd hi hb
    by_cases hlt : i < a.length
    · cases ho : op (cc a i) with
      | true =>
        obtain ⟨j, h1, h2, h3, h4⟩ := run_end (op := op) (a := a) (a.length - i) i (by omega)
        have hij : i < j := by
          rcases Nat.lt_or_ge i j with h | h
          · exact h
          · have e : j = i := by omega
            subst e
            have := h4 hlt
            rw [ho] at this
            cases this
        have hb0 : i = 0 ∨ op (cc a (i - 1)) = false := by
          rcases hb with h | h | h | h
          · exact .inl h
          · exact .inr h
          · omega
          · rw [ho] at h; cases h
        have ih := ih0 j (by omega) h2 (by
          rcases Nat.lt_or_ge j a.length with h | h
          · exact .inr (.inr (.inr (h4 h)))
          · exact .inr (.inr (.inl (by omega))))
        rw [toks_run h2 hij h3 h4, show (i : Int) + ((j - i : Nat) : Int) = (j : Int) by omega, List.map_cons]
        have eA : alones pu a i = alones pu a j := by
          have := filt_skip (n := a.length) (p := fun k => pu (cc a k)) (j - i) i (by omega) (fun k k1 k2 => hdis k (by omega) (h3 k k1 (by omega)))
          rw [show i + (j - i) = j by omega] at this
          exact this
        have eB : begs op a i = i :: begs op a j := by
          unfold begs
          rw [filt_true hlt (by
            unfold pBeg
            rw [ho]
            rcases hb0 with h | h
            · simp [h]
            · rw [h]; simp)]
          have := filt_skip (n := a.length) (p := pBeg op a) (j - (i + 1)) (i + 1) (by omega) (fun k k1 k2 => by
            unfold pBeg
            rw [h3 (k - 1) (by omega) (by omega), show (k == 0) = false by simp; omega]
            simp)
          rw [this, show i + 1 + (j - (i + 1)) = j by omega]
        have eE : ends op a i = j :: ends op a j := by
          unfold ends
          have := filt_skip (n := a.length) (p := pEnd op a) (j - 1 - i) i (by omega) (fun k k1 k2 => by
            unfold pEnd
            rw [h3 (k + 1) (by omega) (by omega), show (k + 1 == a.length) = false by simp; omega]
            simp)
          rw [this, show i + (j - 1 - i) = j - 1 by omega, filt_true (by omega) (by
            unfold pEnd
            rw [h3 (j - 1) (by omega) (by omega), show j - 1 + 1 = j by omega]
            rcases Nat.lt_or_ge j a.length with h | h
            · rw [h4 h]; simp
            · rw [show (j == a.length) = true by simp; omega]; simp), List.map_cons, show j - 1 + 1 = j by omega]
        unfold pieces
        rw [eA, eB, eE, List.zip_cons_cons, List.map_cons]
        refine (List.Perm.cons _ ?_).trans List.perm_middle.symm
        exact ih
      | false =>
        have ih := ih0 (i + 1) (by omega) hlt (.inr (.inl (by simpa using ho)))
        have eB : begs op a i = begs op a (i + 1) := filt_false hlt (by unfold pBeg; rw [ho]; rfl)
        have eE : ends op a i = ends op a (i + 1) := by
          unfold ends
          rw [filt_false hlt (by unfold pEnd; rw [ho]; rfl)]
        cases hp : pu (cc a i) with
        | true =>
          have eA : alones pu a i = i :: alones pu a (i + 1) := filt_true hlt hp
          rw [toks_mark hlt ho hp]
          unfold pieces
          rw [eA, eB, eE, List.map_cons, List.map_cons, List.cons_append]
          exact List.Perm.cons _ ih
        | false =>
          have eA : alones pu a i = alones pu a (i + 1) := filt_false hlt hp
          rw [toks_skip hlt ho hp]
          unfold pieces
          rw [eA, eB, eE]
          exact ih
    · obtain rfl : i = a.length := by omega
      rw [toks_end (Nat.le_refl _)]
      unfold pieces alones begs ends
      rw [filt_end (Nat.le_refl _), filt_end (Nat.le_refl _), filt_end (Nat.le_refl _)]
      exact List.Perm.refl _
/-- the places of the words rise -/
theorem toks_rise : ∀ (n : Nat) (l : List Nat) (p : Int), l.length ≤ n → (∀ x ∈ toks op pu l p, p ≤ x.2) ∧ (toks op pu l p).Pairwise (fun x y => x.2 < y.2) := by
  intro n
  induction n with
  | zero =>
    intro l p h
    cases l with
    | nil => rw [toks]; exact ⟨fun x hx => (nomatch hx), .nil⟩
    | cons c r => exact absurd h (Nat.not_succ_le_zero _)
  | succ n ih =>
    intro l p h
    cases l with
    | nil => rw [toks]; exact ⟨fun x hx => (nomatch hx), .nil⟩
    | cons c r =>
      have hr : r.length ≤ n := Nat.le_of_succ_le_succ h
      have h1 := drop_len (op := op) r
      rw [toks]
      split
      · rename_i hop
        have hl : 1 ≤ ((c :: r).takeWhile op).length := by
          rw [List.takeWhile_cons, if_pos hop]; simp
        obtain ⟨x, y⟩ := ih (r.dropWhile op) (p + ((c :: r).takeWhile op).length) (Nat.le_trans h1 hr)
        refine ⟨fun z hz => ?_, .cons (fun z hz => ?_) y⟩
        · rcases List.mem_cons.mp hz with rfl | hz
          · exact Int.le_refl _
          · have := x z hz; omega
        · have := x z hz
          show p < z.2
          omega
      · split
        · obtain ⟨x, y⟩ := ih r (p + 1) hr
          refine ⟨fun z hz => ?_, .cons (fun z hz => ?_) y⟩
          · rcases List.mem_cons.mp hz with rfl | hz
            · exact Int.le_refl _
            · have := x z hz; omega
          · have := x z hz
            show p < z.2
            omega
        · obtain ⟨x, y⟩ := ih r (p + 1) hr
          exact ⟨fun z hz => by have := x z hz; omega, y⟩
end
/-- two rising lists with the same entries are one -/
theorem rise_unique {β : Type} : ∀ {l l' : List (Int × β)}, l.Perm l' → l.Pairwise (fun a b => a.1 < b.1) → l'.Pairwise (fun a b => a.1 < b.1) → l = l'
  | [], l', h, _, _ => (List.nil_perm.mp h).symm
  | x :: r, [], h, _, _ => absurd h.symm (by simp)
  | x :: r, y :: r', h, h1, h2 => by
    have hx : x ∈ y :: r' := h.mem_iff.mp (.head _)
    have hy : y ∈ x :: r := h.mem_iff.mpr (.head _)
    have e : x = y := by
      rcases List.mem_cons.mp hx with e | hx
      · exact e
      · rcases List.mem_cons.mp hy with e | hy
        · exact e.symm
        · have a := (List.pairwise_cons.mp h2).1 x hx
          have b := (List.pairwise_cons.mp h1).1 y hy
          omega
    subst e
    rw [rise_unique (List.Perm.cons_inv h) (List.pairwise_cons.mp h1).2 (List.pairwise_cons.mp h2).2]
end Mine
namespace Mine
section
variable {op : Nat → Bool} {a : List Nat}
theorem filt_zero (n : Nat) (p : Nat → Bool) : filt n p 0 = (List.range n).filter p := by
  unfold filt
  rw [Nat.sub_zero, List.range_eq_range']
theorem any_pred (n : Nat) (p : Nat → Bool) (x : Int) : (((List.range n).filter p).map Int.ofNat).any (· == x) = decide (∃ j, j < n ∧ p j = true ∧ (j : Int) = x) := by
  rw [Bool.eq_iff_iff]
  simp only [List.any_eq_true, List.mem_map, List.mem_filter, List.mem_range, beq_iff_eq, decide_eq_true_eq]
  constructor
  · rintro ⟨_, ⟨j, ⟨h1, h2⟩, rfl⟩, rfl⟩
    exact ⟨j, h1, h2, rfl⟩
  · rintro ⟨j, h1, h2, rfl⟩
    exact ⟨_, ⟨j, ⟨h1, h2⟩, rfl⟩, rfl⟩
theorem begs_eq : (((List.range a.length).filter fun k => op (cc a k)).map Int.ofNat).filter (fun x => !((((List.range a.length).filter fun k => op (cc a k)).map Int.ofNat).any (· == x - 1))) = (begs op a 0).map Int.ofNat := by
  unfold begs
  rw [filt_zero, List.filter_map, List.filter_filter]
  congr 1
  apply List.filter_congr
  intro k hk
  have hk' := List.mem_range.mp hk
  show (!(List.any _ _) && op (cc a k)) = pBeg op a k
  rw [show (fun x => x == Int.ofNat k - 1) = (fun x : Int => x == ((k : Int) - 1)) from rfl, any_pred]
  unfold pBeg
  cases ho : op (cc a k) with
  | false => simp
  | true =>
    rw [Bool.and_true, Bool.true_and]
    by_cases h0 : k = 0
    · subst h0
      have : ¬ ∃ j, j < a.length ∧ op (cc a j) = true ∧ (j : Int) = ((0 : Nat) : Int) - 1 := by
        rintro ⟨j, _, _, h⟩
        omega
      rw [decide_eq_false this]
      rfl
    · have e : (∃ j, j < a.length ∧ op (cc a j) = true ∧ (j : Int) = (k : Int) - 1) ↔ op (cc a (k - 1)) = true := by
        constructor
        · rintro ⟨j, _, h2, h3⟩
          rw [show k - 1 = j by omega]; exact h2
        · intro h
          exact ⟨k - 1, by omega, h, by omega⟩
      rw [show (k == 0) = false by simpa using h0, Bool.false_or]
      cases hq : op (cc a (k - 1)) with
      | true => rw [decide_eq_true (e.mpr hq)]
      | false =>
        rw [decide_eq_false (fun h => by rw [e.mp h] at hq; cases hq)]
theorem ends_eq : ((((List.range a.length).filter fun k => op (cc a k)).map Int.ofNat).filter (fun x => !((((List.range a.length).filter fun k => op (cc a k)).map Int.ofNat).any (· == x + 1)))).map (· + 1) = (ends op a 0).map Int.ofNat := by
  unfold ends
  rw [filt_zero, List.filter_map, List.filter_filter, List.map_map, List.map_map]
  have e2 : ((fun x : Int => x + 1) ∘ Int.ofNat) = (Int.ofNat ∘ fun x => x + 1) := by
    funext x
    rfl
  rw [e2]
  congr 1
  apply List.filter_congr
  intro k hk
  have hk' := List.mem_range.mp hk
  show (!(List.any _ _) && op (cc a k)) = pEnd op a k
  rw [show (fun x => x == Int.ofNat k + 1) = (fun x : Int => x == ((k : Int) + 1)) from rfl, any_pred]
  unfold pEnd
  cases ho : op (cc a k) with
  | false => simp
  | true =>
    rw [Bool.and_true, Bool.true_and]
    by_cases h0 : k + 1 = a.length
    · have : ¬ ∃ j, j < a.length ∧ op (cc a j) = true ∧ (j : Int) = (k : Int) + 1 := by
        rintro ⟨j, _, _, h⟩
        omega
      rw [decide_eq_false this, show (k + 1 == a.length) = true by simpa using h0]
      rfl
    · have e : (∃ j, j < a.length ∧ op (cc a j) = true ∧ (j : Int) = (k : Int) + 1) ↔ op (cc a (k + 1)) = true := by
        constructor
        · rintro ⟨j, _, h2, h3⟩
          rw [show k + 1 = j by omega]; exact h2
        · intro h
          exact ⟨k + 1, by omega, h, by omega⟩
      rw [show (k + 1 == a.length) = false by simpa using h0, Bool.false_or]
      cases hq : op (cc a (k + 1)) with
      | true => rw [decide_eq_true (e.mpr hq)]
      | false =>
        rw [decide_eq_false (fun h => by rw [e.mp h] at hq; cases hq)]
/-- each begin has its end -/
theorem pair_ok : ∀ (d i : Nat), i + d ≥ a.length → i ≤ a.length → (i = 0 ∨ op (cc a (i - 1)) = false ∨ i = a.length ∨ op (cc a i) = false) →
    (begs op a i).length = (ends op a i).length ∧ ∀ p ∈ (begs op a i).zip (ends op a i), p.1 < p.2 ∧ p.2 ≤ a.length := by
  intro d
  induction d with
  | zero =>
    intro i hd hi hb
    obtain rfl : i = a.length := by omega
    unfold begs ends
    rw [filt_end (Nat.le_refl _), filt_end (Nat.le_refl _)]
    exact ⟨rfl, fun p hp => by simp at hp⟩
  | succ d ih0 =>
    intro i hd hi hb
    by_cases hlt : i < a.length
    · cases ho : op (cc a i) with
      | true =>
        obtain ⟨j, h1, h2, h3, h4⟩ := run_end (op := op) (a := a) (a.length - i) i (by omega)
        have hij : i < j := by
          rcases Nat.lt_or_ge i j with h | h
          · exact h
          · have e : j = i := by omega
            subst e
            have := h4 hlt
            rw [ho] at this
            cases this
        have hb0 : i = 0 ∨ op (cc a (i - 1)) = false := by
          rcases hb with h | h | h | h
          · exact .inl h
          · exact .inr h
          · omega
          · rw [ho] at h; cases h
        have ih := ih0 j (by omega) h2 (by
          rcases Nat.lt_or_ge j a.length with h | h
          · exact .inr (.inr (.inr (h4 h)))
          · exact .inr (.inr (.inl (by omega))))
        have eB : begs op a i = i :: begs op a j := by
          unfold begs
          rw [filt_true hlt (by
            unfold pBeg
            rw [ho]
            rcases hb0 with h | h
            · simp [h]
            · rw [h]; simp)]
          have := filt_skip (n := a.length) (p := pBeg op a) (j - (i + 1)) (i + 1) (by omega) (fun k k1 k2 => by
            unfold pBeg
            rw [h3 (k - 1) (by omega) (by omega), show (k == 0) = false by simp; omega]
            simp)
          rw [this, show i + 1 + (j - (i + 1)) = j by omega]
        have eE : ends op a i = j :: ends op a j := by
          unfold ends
          have := filt_skip (n := a.length) (p := pEnd op a) (j - 1 - i) i (by omega) (fun k k1 k2 => by
            unfold pEnd
            rw [h3 (k + 1) (by omega) (by omega), show (k + 1 == a.length) = false by simp; omega]
            simp)
          rw [this, show i + (j - 1 - i) = j - 1 by omega, filt_true (by omega) (by
            unfold pEnd
            rw [h3 (j - 1) (by omega) (by omega), show j - 1 + 1 = j by omega]
            rcases Nat.lt_or_ge j a.length with h | h
            · rw [h4 h]; simp
            · rw [show (j == a.length) = true by simp; omega]; simp), List.map_cons, show j - 1 + 1 = j by omega]
        rw [eB, eE]
        refine ⟨congrArg (· + 1) ih.1, fun p hp => ?_⟩
        rw [List.zip_cons_cons] at hp
        rcases List.mem_cons.mp hp with rfl | hp
        · exact ⟨hij, h2⟩
        · exact ih.2 p hp
      | false =>
        have ih := ih0 (i + 1) (by omega) hlt (.inr (.inl (by simpa using ho)))
        have eB : begs op a i = begs op a (i + 1) := filt_false hlt (by unfold pBeg; rw [ho]; rfl)
        have eE : ends op a i = ends op a (i + 1) := by
          unfold ends
          rw [filt_false hlt (by unfold pEnd; rw [ho]; rfl)]
        rw [eB, eE]
        exact ih
    · obtain rfl : i = a.length := by omega
      unfold begs ends
      rw [filt_end (Nat.le_refl _), filt_end (Nat.le_refl _)]
      exact ⟨rfl, fun p hp => by simp at hp⟩
end
end Mine
open PySem PySem.W PySem.Calls PySem.Spec PyProof.Rows
namespace Mine
/- the row's defs, taken out of the row's own program -/
noncomputable def fnAt (p : Program) (i : Nat) : Option Stmt := p.main.body[i]?
noncomputable def mtAt (p : Program) (i j : Nat) : Option Stmt := match p.main.body[i]? with
  | some (.ClassDef _ _ _ b _ _ _ _ _ _ _) => b[j]?
  | _ => none
noncomputable def fdP : Option Stmt → Arguments
  | some (.FunctionDef _ a _ _ _ _ _ _ _ _) => a
  | _ => ⟨[], [], none, [], [], none, []⟩
noncomputable def fdB : Option Stmt → List Stmt
  | some (.FunctionDef _ _ b _ _ _ _ _ _ _) => b
  | _ => []
noncomputable def fdS (p : Program) : Option Stmt → Scope
  | some (.FunctionDef _ _ _ _ _ _ s _ _ _) => s
  | _ => p.main.scope
noncomputable abbrev pw : Program := PySem.Challenge.pw_rg0116_01
@[reducible] noncomputable def xP37 : {x : Arguments // fdP (mtAt pw 2 0) = x} := by apply Subtype.mk; (conv => lhs; whnf)
noncomputable abbrev P37 : Arguments := xP37.val
@[reducible] noncomputable def xB37 : {x : List Stmt // fdB (mtAt pw 2 0) = x} := by apply Subtype.mk; (conv => lhs; whnf)
noncomputable abbrev B37 : List Stmt := xB37.val
@[reducible] noncomputable def xS37 : {x : Scope // fdS pw (mtAt pw 2 0) = x} := by apply Subtype.mk; (conv => lhs; whnf)
noncomputable abbrev S37 : Scope := xS37.val
@[reducible] noncomputable def xP44 : {x : Arguments // fdP (mtAt pw 2 1) = x} := by apply Subtype.mk; (conv => lhs; whnf)
noncomputable abbrev P44 : Arguments := xP44.val
@[reducible] noncomputable def xB44 : {x : List Stmt // fdB (mtAt pw 2 1) = x} := by apply Subtype.mk; (conv => lhs; whnf)
noncomputable abbrev B44 : List Stmt := xB44.val
@[reducible] noncomputable def xS44 : {x : Scope // fdS pw (mtAt pw 2 1) = x} := by apply Subtype.mk; (conv => lhs; whnf)
noncomputable abbrev S44 : Scope := xS44.val
@[reducible] noncomputable def xP66 : {x : Arguments // fdP (mtAt pw 3 0) = x} := by apply Subtype.mk; (conv => lhs; whnf)
noncomputable abbrev P66 : Arguments := xP66.val
@[reducible] noncomputable def xB66 : {x : List Stmt // fdB (mtAt pw 3 0) = x} := by apply Subtype.mk; (conv => lhs; whnf)
noncomputable abbrev B66 : List Stmt := xB66.val
@[reducible] noncomputable def xS66 : {x : Scope // fdS pw (mtAt pw 3 0) = x} := by apply Subtype.mk; (conv => lhs; whnf)
noncomputable abbrev S66 : Scope := xS66.val
@[reducible] noncomputable def xP73 : {x : Arguments // fdP (mtAt pw 3 1) = x} := by apply Subtype.mk; (conv => lhs; whnf)
noncomputable abbrev P73 : Arguments := xP73.val
@[reducible] noncomputable def xB73 : {x : List Stmt // fdB (mtAt pw 3 1) = x} := by apply Subtype.mk; (conv => lhs; whnf)
noncomputable abbrev B73 : List Stmt := xB73.val
@[reducible] noncomputable def xS73 : {x : Scope // fdS pw (mtAt pw 3 1) = x} := by apply Subtype.mk; (conv => lhs; whnf)
noncomputable abbrev S73 : Scope := xS73.val
@[reducible] noncomputable def xP95 : {x : Arguments // fdP (fnAt pw 6) = x} := by apply Subtype.mk; (conv => lhs; whnf)
noncomputable abbrev P95 : Arguments := xP95.val
@[reducible] noncomputable def xB95 : {x : List Stmt // fdB (fnAt pw 6) = x} := by apply Subtype.mk; (conv => lhs; whnf)
noncomputable abbrev B95 : List Stmt := xB95.val
@[reducible] noncomputable def xS95 : {x : Scope // fdS pw (fnAt pw 6) = x} := by apply Subtype.mk; (conv => lhs; whnf)
noncomputable abbrev S95 : Scope := xS95.val
@[reducible] noncomputable def xP145 : {x : Arguments // fdP (fnAt pw 15) = x} := by apply Subtype.mk; (conv => lhs; whnf)
noncomputable abbrev P145 : Arguments := xP145.val
@[reducible] noncomputable def xB145 : {x : List Stmt // fdB (fnAt pw 15) = x} := by apply Subtype.mk; (conv => lhs; whnf)
noncomputable abbrev B145 : List Stmt := xB145.val
@[reducible] noncomputable def xS145 : {x : Scope // fdS pw (fnAt pw 15) = x} := by apply Subtype.mk; (conv => lhs; whnf)
noncomputable abbrev S145 : Scope := xS145.val
@[reducible] noncomputable def xP159 : {x : Arguments // fdP (mtAt pw 16 0) = x} := by apply Subtype.mk; (conv => lhs; whnf)
noncomputable abbrev P159 : Arguments := xP159.val
@[reducible] noncomputable def xB159 : {x : List Stmt // fdB (mtAt pw 16 0) = x} := by apply Subtype.mk; (conv => lhs; whnf)
noncomputable abbrev B159 : List Stmt := xB159.val
@[reducible] noncomputable def xS159 : {x : Scope // fdS pw (mtAt pw 16 0) = x} := by apply Subtype.mk; (conv => lhs; whnf)
noncomputable abbrev S159 : Scope := xS159.val
@[reducible] noncomputable def xP166 : {x : Arguments // fdP (mtAt pw 16 1) = x} := by apply Subtype.mk; (conv => lhs; whnf)
noncomputable abbrev P166 : Arguments := xP166.val
@[reducible] noncomputable def xB166 : {x : List Stmt // fdB (mtAt pw 16 1) = x} := by apply Subtype.mk; (conv => lhs; whnf)
noncomputable abbrev B166 : List Stmt := xB166.val
@[reducible] noncomputable def xS166 : {x : Scope // fdS pw (mtAt pw 16 1) = x} := by apply Subtype.mk; (conv => lhs; whnf)
noncomputable abbrev S166 : Scope := xS166.val
@[reducible] noncomputable def xP173 : {x : Arguments // fdP (mtAt pw 16 2) = x} := by apply Subtype.mk; (conv => lhs; whnf)
noncomputable abbrev P173 : Arguments := xP173.val
@[reducible] noncomputable def xB173 : {x : List Stmt // fdB (mtAt pw 16 2) = x} := by apply Subtype.mk; (conv => lhs; whnf)
noncomputable abbrev B173 : List Stmt := xB173.val
@[reducible] noncomputable def xS173 : {x : Scope // fdS pw (mtAt pw 16 2) = x} := by apply Subtype.mk; (conv => lhs; whnf)
noncomputable abbrev S173 : Scope := xS173.val
@[reducible] noncomputable def xP180 : {x : Arguments // fdP (mtAt pw 16 3) = x} := by apply Subtype.mk; (conv => lhs; whnf)
noncomputable abbrev P180 : Arguments := xP180.val
@[reducible] noncomputable def xB180 : {x : List Stmt // fdB (mtAt pw 16 3) = x} := by apply Subtype.mk; (conv => lhs; whnf)
noncomputable abbrev B180 : List Stmt := xB180.val
@[reducible] noncomputable def xS180 : {x : Scope // fdS pw (mtAt pw 16 3) = x} := by apply Subtype.mk; (conv => lhs; whnf)
noncomputable abbrev S180 : Scope := xS180.val
@[reducible] noncomputable def xP187 : {x : Arguments // fdP (mtAt pw 16 4) = x} := by apply Subtype.mk; (conv => lhs; whnf)
noncomputable abbrev P187 : Arguments := xP187.val
@[reducible] noncomputable def xB187 : {x : List Stmt // fdB (mtAt pw 16 4) = x} := by apply Subtype.mk; (conv => lhs; whnf)
noncomputable abbrev B187 : List Stmt := xB187.val
@[reducible] noncomputable def xS187 : {x : Scope // fdS pw (mtAt pw 16 4) = x} := by apply Subtype.mk; (conv => lhs; whnf)
noncomputable abbrev S187 : Scope := xS187.val
@[reducible] noncomputable def xP194 : {x : Arguments // fdP (mtAt pw 16 5) = x} := by apply Subtype.mk; (conv => lhs; whnf)
noncomputable abbrev P194 : Arguments := xP194.val
@[reducible] noncomputable def xB194 : {x : List Stmt // fdB (mtAt pw 16 5) = x} := by apply Subtype.mk; (conv => lhs; whnf)
noncomputable abbrev B194 : List Stmt := xB194.val
@[reducible] noncomputable def xS194 : {x : Scope // fdS pw (mtAt pw 16 5) = x} := by apply Subtype.mk; (conv => lhs; whnf)
noncomputable abbrev S194 : Scope := xS194.val
@[reducible] noncomputable def xP201 : {x : Arguments // fdP (mtAt pw 16 6) = x} := by apply Subtype.mk; (conv => lhs; whnf)
noncomputable abbrev P201 : Arguments := xP201.val
@[reducible] noncomputable def xB201 : {x : List Stmt // fdB (mtAt pw 16 6) = x} := by apply Subtype.mk; (conv => lhs; whnf)
noncomputable abbrev B201 : List Stmt := xB201.val
@[reducible] noncomputable def xS201 : {x : Scope // fdS pw (mtAt pw 16 6) = x} := by apply Subtype.mk; (conv => lhs; whnf)
noncomputable abbrev S201 : Scope := xS201.val
@[reducible] noncomputable def xP208 : {x : Arguments // fdP (mtAt pw 16 7) = x} := by apply Subtype.mk; (conv => lhs; whnf)
noncomputable abbrev P208 : Arguments := xP208.val
@[reducible] noncomputable def xB208 : {x : List Stmt // fdB (mtAt pw 16 7) = x} := by apply Subtype.mk; (conv => lhs; whnf)
noncomputable abbrev B208 : List Stmt := xB208.val
@[reducible] noncomputable def xS208 : {x : Scope // fdS pw (mtAt pw 16 7) = x} := by apply Subtype.mk; (conv => lhs; whnf)
noncomputable abbrev S208 : Scope := xS208.val
@[reducible] noncomputable def xP222 : {x : Arguments // fdP (mtAt pw 16 9) = x} := by apply Subtype.mk; (conv => lhs; whnf)
noncomputable abbrev P222 : Arguments := xP222.val
@[reducible] noncomputable def xB222 : {x : List Stmt // fdB (mtAt pw 16 9) = x} := by apply Subtype.mk; (conv => lhs; whnf)
noncomputable abbrev B222 : List Stmt := xB222.val
@[reducible] noncomputable def xS222 : {x : Scope // fdS pw (mtAt pw 16 9) = x} := by apply Subtype.mk; (conv => lhs; whnf)
noncomputable abbrev S222 : Scope := xS222.val
@[reducible] noncomputable def xP269 : {x : Arguments // fdP (fnAt pw 19) = x} := by apply Subtype.mk; (conv => lhs; whnf)
noncomputable abbrev P269 : Arguments := xP269.val
@[reducible] noncomputable def xB269 : {x : List Stmt // fdB (fnAt pw 19) = x} := by apply Subtype.mk; (conv => lhs; whnf)
noncomputable abbrev B269 : List Stmt := xB269.val
@[reducible] noncomputable def xS269 : {x : Scope // fdS pw (fnAt pw 19) = x} := by apply Subtype.mk; (conv => lhs; whnf)
noncomputable abbrev S269 : Scope := xS269.val
@[reducible] noncomputable def xP274 : {x : Arguments // fdP (fnAt pw 20) = x} := by apply Subtype.mk; (conv => lhs; whnf)
noncomputable abbrev P274 : Arguments := xP274.val
@[reducible] noncomputable def xB274 : {x : List Stmt // fdB (fnAt pw 20) = x} := by apply Subtype.mk; (conv => lhs; whnf)
noncomputable abbrev B274 : List Stmt := xB274.val
@[reducible] noncomputable def xS274 : {x : Scope // fdS pw (fnAt pw 20) = x} := by apply Subtype.mk; (conv => lhs; whnf)
noncomputable abbrev S274 : Scope := xS274.val
@[reducible] noncomputable def xP281 : {x : Arguments // fdP (fnAt pw 21) = x} := by apply Subtype.mk; (conv => lhs; whnf)
noncomputable abbrev P281 : Arguments := xP281.val
@[reducible] noncomputable def xB281 : {x : List Stmt // fdB (fnAt pw 21) = x} := by apply Subtype.mk; (conv => lhs; whnf)
noncomputable abbrev B281 : List Stmt := xB281.val
@[reducible] noncomputable def xS281 : {x : Scope // fdS pw (fnAt pw 21) = x} := by apply Subtype.mk; (conv => lhs; whnf)
noncomputable abbrev S281 : Scope := xS281.val
@[reducible] noncomputable def xP288 : {x : Arguments // fdP (fnAt pw 22) = x} := by apply Subtype.mk; (conv => lhs; whnf)
noncomputable abbrev P288 : Arguments := xP288.val
@[reducible] noncomputable def xB288 : {x : List Stmt // fdB (fnAt pw 22) = x} := by apply Subtype.mk; (conv => lhs; whnf)
noncomputable abbrev B288 : List Stmt := xB288.val
@[reducible] noncomputable def xS288 : {x : Scope // fdS pw (fnAt pw 22) = x} := by apply Subtype.mk; (conv => lhs; whnf)
noncomputable abbrev S288 : Scope := xS288.val
@[reducible] noncomputable def xP295 : {x : Arguments // fdP (fnAt pw 23) = x} := by apply Subtype.mk; (conv => lhs; whnf)
noncomputable abbrev P295 : Arguments := xP295.val
@[reducible] noncomputable def xB295 : {x : List Stmt // fdB (fnAt pw 23) = x} := by apply Subtype.mk; (conv => lhs; whnf)
noncomputable abbrev B295 : List Stmt := xB295.val
@[reducible] noncomputable def xS295 : {x : Scope // fdS pw (fnAt pw 23) = x} := by apply Subtype.mk; (conv => lhs; whnf)
noncomputable abbrev S295 : Scope := xS295.val
@[reducible] noncomputable def xP302 : {x : Arguments // fdP (fnAt pw 24) = x} := by apply Subtype.mk; (conv => lhs; whnf)
noncomputable abbrev P302 : Arguments := xP302.val
@[reducible] noncomputable def xB302 : {x : List Stmt // fdB (fnAt pw 24) = x} := by apply Subtype.mk; (conv => lhs; whnf)
noncomputable abbrev B302 : List Stmt := xB302.val
@[reducible] noncomputable def xS302 : {x : Scope // fdS pw (fnAt pw 24) = x} := by apply Subtype.mk; (conv => lhs; whnf)
noncomputable abbrev S302 : Scope := xS302.val
@[reducible] noncomputable def xP307 : {x : Arguments // fdP (fnAt pw 25) = x} := by apply Subtype.mk; (conv => lhs; whnf)
noncomputable abbrev P307 : Arguments := xP307.val
@[reducible] noncomputable def xB307 : {x : List Stmt // fdB (fnAt pw 25) = x} := by apply Subtype.mk; (conv => lhs; whnf)
noncomputable abbrev B307 : List Stmt := xB307.val
@[reducible] noncomputable def xS307 : {x : Scope // fdS pw (fnAt pw 25) = x} := by apply Subtype.mk; (conv => lhs; whnf)
noncomputable abbrev S307 : Scope := xS307.val
@[reducible] noncomputable def xP312 : {x : Arguments // fdP (fnAt pw 26) = x} := by apply Subtype.mk; (conv => lhs; whnf)
noncomputable abbrev P312 : Arguments := xP312.val
@[reducible] noncomputable def xB312 : {x : List Stmt // fdB (fnAt pw 26) = x} := by apply Subtype.mk; (conv => lhs; whnf)
noncomputable abbrev B312 : List Stmt := xB312.val
@[reducible] noncomputable def xS312 : {x : Scope // fdS pw (fnAt pw 26) = x} := by apply Subtype.mk; (conv => lhs; whnf)
noncomputable abbrev S312 : Scope := xS312.val
@[reducible] noncomputable def xP317 : {x : Arguments // fdP (fnAt pw 27) = x} := by apply Subtype.mk; (conv => lhs; whnf)
noncomputable abbrev P317 : Arguments := xP317.val
@[reducible] noncomputable def xB317 : {x : List Stmt // fdB (fnAt pw 27) = x} := by apply Subtype.mk; (conv => lhs; whnf)
noncomputable abbrev B317 : List Stmt := xB317.val
@[reducible] noncomputable def xS317 : {x : Scope // fdS pw (fnAt pw 27) = x} := by apply Subtype.mk; (conv => lhs; whnf)
noncomputable abbrev S317 : Scope := xS317.val
/-- the part of the heap behind the top -/
noncomputable def hd.heap_39 : Params → Frag := fun P =>
  ((nat_lit 2 : Nat), ({ cls := Value.none, data := Data.dict #[{ hash := PyData.keyHash P (Str.ofString "type.__subclasses__.Exception.0"), key := Value.str (Str.ofString "type.__subclasses__.Exception.0") 230, val := Value.int 47 0 }, { hash := PyData.keyHash P (Str.ofString "type.__subclasses__.Exception.n"), key := Value.str (Str.ofString "type.__subclasses__.Exception.n") 231, val := Value.int 1 0 }] 2 } : Obj)) ::
  ((nat_lit 3 : Nat), ({ cls := Value.type "dict", data := Data.dict #[{ hash := PyData.keyHash P (Str.ofString "__name__"), key := Value.str (Str.ofString "__name__") 165, val := Value.str (Str.ofString "law_rg0116_01") 510 }, { hash := PyData.keyHash P (Str.ofString "__doc__"), key := Value.str (Str.ofString "__doc__") 166, val := Value.none }, { hash := PyData.keyHash P (Str.ofString "__package__"), key := Value.str (Str.ofString "__package__") 167, val := Value.none }, { hash := PyData.keyHash P (Str.ofString "__loader__"), key := Value.str (Str.ofString "__loader__") 168, val := Value.builtin "__main__.__loader__#opaque" }, { hash := PyData.keyHash P (Str.ofString "__spec__"), key := Value.str (Str.ofString "__spec__") 169, val := Value.none }, { hash := PyData.keyHash P (Str.ofString "__annotations__"), key := Value.str (Str.ofString "__annotations__") 170, val := Value.ref 6 }, { hash := PyData.keyHash P (Str.ofString "__builtins__"), key := Value.str (Str.ofString "__builtins__") 171, val := Value.ref 4 }, { hash := PyData.keyHash P (Str.ofString "__file__"), key := Value.str (Str.ofString "__file__") 173, val := Value.str (Str.ofString "/claim/cut.py") 172 }, { hash := PyData.keyHash P (Str.ofString "__cached__"), key := Value.str (Str.ofString "__cached__") 174, val := Value.none }, { hash := PyData.keyHash P (Str.ofString "_wall"), key := Value.str (Str.ofString "_wall") 193, val := Value.ref 21 }, { hash := PyData.keyHash P (Str.ofString "HeapError"), key := Value.str (Str.ofString "HeapError") 233, val := Value.ref 47 }, { hash := PyData.keyHash P (Str.ofString "TextFault"), key := Value.str (Str.ofString "TextFault") 268, val := Value.ref 76 }, { hash := PyData.keyHash P (Str.ofString "RuleFault"), key := Value.str (Str.ofString "RuleFault") 284, val := Value.ref 88 }, { hash := PyData.keyHash P (Str.ofString "is_op"), key := Value.str (Str.ofString "is_op") 292, val := Value.ref 95 }, { hash := PyData.keyHash P (Str.ofString "is_variable"), key := Value.str (Str.ofString "is_variable") 299, val := Value.ref 102 }, { hash := PyData.keyHash P (Str.ofString "variables"), key := Value.str (Str.ofString "variables") 305, val := Value.ref 107 }, { hash := PyData.keyHash P (Str.ofString "parts"), key := Value.str (Str.ofString "parts") 311, val := Value.ref 112 }, { hash := PyData.keyHash P (Str.ofString "Rule"), key := Value.str (Str.ofString "Rule") 350, val := Value.ref 134 }, { hash := PyData.keyHash P (Str.ofString "MOST_DEPTH"), key := Value.str (Str.ofString "MOST_DEPTH") 354, val := Value.int 40 353 }, { hash := PyData.keyHash P (Str.ofString "MOST_SIGNS"), key := Value.str (Str.ofString "MOST_SIGNS") 356, val := Value.int 100000 355 }, { hash := PyData.keyHash P (Str.ofString "words_of"), key := Value.str (Str.ofString "words_of") 366, val := Value.ref 145 }, { hash := PyData.keyHash P (Str.ofString "Reader"), key := Value.str (Str.ofString "Reader") 509, val := Value.ref 258 }, { hash := PyData.keyHash P (Str.ofString "_law_signs"), key := Value.str (Str.ofString "_law_signs") 513, val := Value.str (Str.ofString "ab?1-=>!'fg0zQ:(),: \t\n [}") 512 }, { hash := PyData.keyHash P (Str.ofString "_law_hewn"), key := Value.str (Str.ofString "_law_hewn") 522, val := Value.ref 269 }, { hash := PyData.keyHash P (Str.ofString "_law_cut"), key := Value.str (Str.ofString "_law_cut") 528, val := Value.ref 274 }, { hash := PyData.keyHash P (Str.ofString "_law_words_told"), key := Value.str (Str.ofString "_law_words_told") 536, val := Value.ref 281 }, { hash := PyData.keyHash P (Str.ofString "_law_is_refused_at"), key := Value.str (Str.ofString "_law_is_refused_at") 546, val := Value.ref 288 }, { hash := PyData.keyHash P (Str.ofString "_law_is_no_op_at"), key := Value.str (Str.ofString "_law_is_no_op_at") 555, val := Value.ref 295 }, { hash := PyData.keyHash P (Str.ofString "_law_is_taken_right"), key := Value.str (Str.ofString "_law_is_taken_right") 564, val := Value.ref 302 }, { hash := PyData.keyHash P (Str.ofString "_law_term"), key := Value.str (Str.ofString "_law_term") 570, val := Value.ref 307 }, { hash := PyData.keyHash P (Str.ofString "_law_written"), key := Value.str (Str.ofString "_law_written") 576, val := Value.ref 312 }, { hash := PyData.keyHash P (Str.ofString "law"), key := Value.str (Str.ofString "law") 582, val := Value.ref 317 }] 32 } : Obj)) ::
  ((nat_lit 15 : Nat), ({ cls := Value.type "tuple", data := Data.seq #[] } : Obj)) ::
  ((nat_lit 17 : Nat), ({ cls := Value.type "tuple", data := Data.seq #[Value.str (Str.ofString "k") 190] } : Obj)) ::
  ((nat_lit 18 : Nat), ({ cls := Value.type "tuple", data := Data.seq #[] } : Obj)) ::
  ((nat_lit 22 : Nat), ({ cls := Value.type "tuple", data := Data.seq #[Value.type "Exception"] } : Obj)) ::
  ((nat_lit 25 : Nat), ({ cls := Value.type "cell", data := Data.cell (some (Value.ref 47)) } : Obj)) ::
  ((nat_lit 30 : Nat), ({ cls := Value.type "tuple", data := Data.seq #[Value.ref 25] } : Obj)) ::
  ((nat_lit 31 : Nat), ({ cls := Value.type "tuple", data := Data.seq #[Value.str (Str.ofString "__class__") 211] } : Obj)) ::
  ((nat_lit 33 : Nat), ({ cls := Value.type "tuple", data := Data.seq #[Value.str (Str.ofString "self") 212, Value.str (Str.ofString "what") 213] } : Obj)) ::
  ((nat_lit 34 : Nat), ({ cls := Value.type "tuple", data := Data.seq #[] } : Obj)) ::
  ((nat_lit 36 : Nat), ({ cls := Value.type "code", data := Data.fields #[Value.str (Str.ofString "__init__") 208, Value.str (Str.ofString "HeapError.__init__") 209, Value.str (Str.ofString "/claim/cut.py") 210, Value.int 7 0, Value.int 2 0, Value.int 0 0, Value.int 0 0, Value.int 3 0, Value.ref 31, Value.bool true, Value.int 181 0, Value.ref 32, Value.none, Value.ref 33, Value.ref 34, Value.ref 35, Value.int 214 0, Value.int 7 0, Value.str (Str.ofString "/claim/cut.py") 215] } : Obj)) ::
  ((nat_lit 37 : Nat), ({ cls := Value.type "function", data := Data.func { name := Str.ofString "__init__", qualname := Str.ofString "HeapError.__init__", params := P37, body := FuncBody.stmts B37, scope := S37, globals := 3, closure := [(Str.ofString "__class__", 25)], defaults := Value.none, kwdefaults := Value.none, pyModule := Value.str (Str.ofString "alikeheap.errors") 194, code := Value.ref 36, closureTuple := Value.ref 30 } } : Obj)) ::
  ((nat_lit 38 : Nat), ({ cls := Value.type "tuple", data := Data.seq #[] } : Obj)) ::
  ((nat_lit 40 : Nat), ({ cls := Value.type "tuple", data := Data.seq #[Value.str (Str.ofString "self") 220] } : Obj)) ::
  ((nat_lit 41 : Nat), ({ cls := Value.type "tuple", data := Data.seq #[] } : Obj)) ::
  ((nat_lit 43 : Nat), ({ cls := Value.type "code", data := Data.fields #[Value.str (Str.ofString "told") 217, Value.str (Str.ofString "HeapError.told") 218, Value.str (Str.ofString "/claim/cut.py") 219, Value.int 11 0, Value.int 1 0, Value.int 0 0, Value.int 0 0, Value.int 3 0, Value.ref 38, Value.bool true, Value.int 181 0, Value.ref 39, Value.none, Value.ref 40, Value.ref 41, Value.ref 42, Value.int 221 0, Value.int 11 0, Value.str (Str.ofString "/claim/cut.py") 222] } : Obj)) ::
  ((nat_lit 44 : Nat), ({ cls := Value.type "function", data := Data.func { name := Str.ofString "told", qualname := Str.ofString "HeapError.told", params := P44, body := FuncBody.stmts B44, scope := S44, globals := 3, closure := [], defaults := Value.none, kwdefaults := Value.none, pyModule := Value.str (Str.ofString "alikeheap.errors") 194, code := Value.ref 43 } } : Obj)) ::
  ((nat_lit 45 : Nat), ({ cls := Value.type "tuple", data := Data.seq #[Value.str (Str.ofString "what") 224] } : Obj)) ::
  ((nat_lit 46 : Nat), ({ cls := Value.type "dict", data := Data.dict #[{ hash := PyData.keyHash P (Str.ofString "__module__"), key := Value.str (Str.ofString "__module__") 203, val := Value.str (Str.ofString "alikeheap.errors") 194 }, { hash := PyData.keyHash P (Str.ofString "__firstlineno__"), key := Value.str (Str.ofString "__firstlineno__") 207, val := Value.int 5 206 }, { hash := PyData.keyHash P (Str.ofString "__init__"), key := Value.str (Str.ofString "__init__") 216, val := Value.ref 37 }, { hash := PyData.keyHash P (Str.ofString "told"), key := Value.str (Str.ofString "told") 223, val := Value.ref 44 }, { hash := PyData.keyHash P (Str.ofString "__static_attributes__"), key := Value.str (Str.ofString "__static_attributes__") 225, val := Value.ref 45 }, { hash := PyData.keyHash P (Str.ofString "__weakref__"), key := Value.str (Str.ofString "__weakref__") 228, val := Value.ref 48 }, { hash := PyData.keyHash P (Str.ofString "__doc__"), key := Value.str (Str.ofString "__doc__") 229, val := Value.none }] 4 } : Obj)) ::
  ((nat_lit 47 : Nat), ({ cls := Value.type "type", data := Data.cls { name := Str.ofString "HeapError", bases := [Value.type "Exception"], mro := [Value.ref 47, Value.type "Exception", Value.type "BaseException", Value.type "object"], ns := 46, qualname := Str.ofString "HeapError", subclasses := [Value.ref 76, Value.ref 88] }, slots := #[some (Value.ref 22), none, some (Value.str (Str.ofString "HeapError") 196), some (Value.str (Str.ofString "HeapError") 204), some (Value.builtin "Exception.__new__"), some (Value.bool true)] } : Obj)) ::
  ((nat_lit 48 : Nat), ({ cls := Value.type "getset_descriptor", data := Data.fields #[Value.str (Str.ofString "__weakref__") 227, Value.ref 47, Value.builtin "ExceptionGroup.__weakref__", Value.none] } : Obj)) ::
  ((nat_lit 51 : Nat), ({ cls := Value.type "tuple", data := Data.seq #[Value.ref 47] } : Obj)) ::
  ((nat_lit 54 : Nat), ({ cls := Value.type "cell", data := Data.cell (some (Value.ref 76)) } : Obj)) ::
  ((nat_lit 59 : Nat), ({ cls := Value.type "tuple", data := Data.seq #[Value.ref 54] } : Obj)) ::
  ((nat_lit 60 : Nat), ({ cls := Value.type "tuple", data := Data.seq #[Value.str (Str.ofString "__class__") 249] } : Obj)) ::
  ((nat_lit 62 : Nat), ({ cls := Value.type "tuple", data := Data.seq #[Value.str (Str.ofString "self") 250, Value.str (Str.ofString "what") 251, Value.str (Str.ofString "spot") 252] } : Obj)) ::
  ((nat_lit 63 : Nat), ({ cls := Value.type "tuple", data := Data.seq #[] } : Obj)) ::
  ((nat_lit 65 : Nat), ({ cls := Value.type "code", data := Data.fields #[Value.str (Str.ofString "__init__") 246, Value.str (Str.ofString "TextFault.__init__") 247, Value.str (Str.ofString "/claim/cut.py") 248, Value.int 15 0, Value.int 3 0, Value.int 0 0, Value.int 0 0, Value.int 3 0, Value.ref 60, Value.bool true, Value.int 181 0, Value.ref 61, Value.none, Value.ref 62, Value.ref 63, Value.ref 64, Value.int 253 0, Value.int 15 0, Value.str (Str.ofString "/claim/cut.py") 254] } : Obj)) ::
  ((nat_lit 66 : Nat), ({ cls := Value.type "function", data := Data.func { name := Str.ofString "__init__", qualname := Str.ofString "TextFault.__init__", params := P66, body := FuncBody.stmts B66, scope := S66, globals := 3, closure := [(Str.ofString "__class__", 54)], defaults := Value.none, kwdefaults := Value.none, pyModule := Value.str (Str.ofString "alikeheap.errors") 194, code := Value.ref 65, closureTuple := Value.ref 59 } } : Obj)) ::
  ((nat_lit 67 : Nat), ({ cls := Value.type "tuple", data := Data.seq #[] } : Obj)) ::
  ((nat_lit 69 : Nat), ({ cls := Value.type "tuple", data := Data.seq #[Value.str (Str.ofString "self") 259] } : Obj)) ::
  ((nat_lit 70 : Nat), ({ cls := Value.type "tuple", data := Data.seq #[] } : Obj)) ::
  ((nat_lit 72 : Nat), ({ cls := Value.type "code", data := Data.fields #[Value.str (Str.ofString "told") 256, Value.str (Str.ofString "TextFault.told") 257, Value.str (Str.ofString "/claim/cut.py") 258, Value.int 19 0, Value.int 1 0, Value.int 0 0, Value.int 0 0, Value.int 3 0, Value.ref 67, Value.bool true, Value.int 181 0, Value.ref 68, Value.none, Value.ref 69, Value.ref 70, Value.ref 71, Value.int 260 0, Value.int 19 0, Value.str (Str.ofString "/claim/cut.py") 261] } : Obj)) ::
  ((nat_lit 73 : Nat), ({ cls := Value.type "function", data := Data.func { name := Str.ofString "told", qualname := Str.ofString "TextFault.told", params := P73, body := FuncBody.stmts B73, scope := S73, globals := 3, closure := [], defaults := Value.none, kwdefaults := Value.none, pyModule := Value.str (Str.ofString "alikeheap.errors") 194, code := Value.ref 72 } } : Obj)) ::
  ((nat_lit 74 : Nat), ({ cls := Value.type "tuple", data := Data.seq #[Value.str (Str.ofString "spot") 263] } : Obj)) ::
  ((nat_lit 75 : Nat), ({ cls := Value.type "dict", data := Data.dict #[{ hash := PyData.keyHash P (Str.ofString "__module__"), key := Value.str (Str.ofString "__module__") 241, val := Value.str (Str.ofString "alikeheap.errors") 194 }, { hash := PyData.keyHash P (Str.ofString "__firstlineno__"), key := Value.str (Str.ofString "__firstlineno__") 245, val := Value.int 13 244 }, { hash := PyData.keyHash P (Str.ofString "__init__"), key := Value.str (Str.ofString "__init__") 255, val := Value.ref 66 }, { hash := PyData.keyHash P (Str.ofString "told"), key := Value.str (Str.ofString "told") 262, val := Value.ref 73 }, { hash := PyData.keyHash P (Str.ofString "__static_attributes__"), key := Value.str (Str.ofString "__static_attributes__") 264, val := Value.ref 74 }, { hash := PyData.keyHash P (Str.ofString "__doc__"), key := Value.str (Str.ofString "__doc__") 266, val := Value.none }] 3 } : Obj)) ::
  ((nat_lit 76 : Nat), ({ cls := Value.type "type", data := Data.cls { name := Str.ofString "TextFault", bases := [Value.ref 47], mro := [Value.ref 76, Value.ref 47, Value.type "Exception", Value.type "BaseException", Value.type "object"], ns := 75, qualname := Str.ofString "TextFault" }, slots := #[some (Value.ref 51), none, some (Value.str (Str.ofString "TextFault") 234), some (Value.str (Str.ofString "TextFault") 242), some (Value.builtin "Exception.__new__"), some (Value.bool true)] } : Obj)) ::
  ((nat_lit 79 : Nat), ({ cls := Value.type "tuple", data := Data.seq #[Value.ref 47] } : Obj)) ::
  ((nat_lit 86 : Nat), ({ cls := Value.type "tuple", data := Data.seq #[] } : Obj)) ::
  ((nat_lit 87 : Nat), ({ cls := Value.type "dict", data := Data.dict #[{ hash := PyData.keyHash P (Str.ofString "__module__"), key := Value.str (Str.ofString "__module__") 276, val := Value.str (Str.ofString "alikeheap.errors") 194 }, { hash := PyData.keyHash P (Str.ofString "__firstlineno__"), key := Value.str (Str.ofString "__firstlineno__") 280, val := Value.int 21 279 }, { hash := PyData.keyHash P (Str.ofString "__static_attributes__"), key := Value.str (Str.ofString "__static_attributes__") 281, val := Value.ref 86 }, { hash := PyData.keyHash P (Str.ofString "__doc__"), key := Value.str (Str.ofString "__doc__") 282, val := Value.none }] 2 } : Obj)) ::
  ((nat_lit 88 : Nat), ({ cls := Value.type "type", data := Data.cls { name := Str.ofString "RuleFault", bases := [Value.ref 47], mro := [Value.ref 88, Value.ref 47, Value.type "Exception", Value.type "BaseException", Value.type "object"], ns := 87, qualname := Str.ofString "RuleFault" }, slots := #[some (Value.ref 79), none, some (Value.str (Str.ofString "RuleFault") 269), some (Value.str (Str.ofString "RuleFault") 277), some (Value.builtin "Exception.__new__"), some (Value.bool true)] } : Obj)) ::
  ((nat_lit 91 : Nat), ({ cls := Value.type "tuple", data := Data.seq #[] } : Obj)) ::
  ((nat_lit 94 : Nat), ({ cls := Value.type "code", data := Data.fields #[Value.str (Str.ofString "is_op") 287, Value.str (Str.ofString "is_op") 288, Value.str (Str.ofString "/claim/cut.py") 289, Value.int 24 0, Value.int 1 0, Value.int 0 0, Value.int 0 0, Value.int 3 0, Value.ref 91, Value.bool true, Value.int 181 0, Value.ref 92, Value.none, Value.none, Value.none, Value.ref 93, Value.int 290 0, Value.int 24 0, Value.str (Str.ofString "/claim/cut.py") 291] } : Obj)) ::
  ((nat_lit 95 : Nat), ({ cls := Value.type "function", data := Data.func { name := Str.ofString "is_op", qualname := Str.ofString "is_op", params := P95, body := FuncBody.stmts B95, scope := S95, globals := 3, closure := [], defaults := Value.none, kwdefaults := Value.none, pyModule := Value.str (Str.ofString "alikeheap.terms") 285, code := Value.ref 94 } } : Obj)) ::
  ((nat_lit 96 : Nat), ({ cls := Value.type "tuple", data := Data.seq #[] } : Obj)) ::
  ((nat_lit 98 : Nat), ({ cls := Value.type "tuple", data := Data.seq #[Value.str (Str.ofString "t") 296] } : Obj)) ::
  ((nat_lit 99 : Nat), ({ cls := Value.type "tuple", data := Data.seq #[] } : Obj)) ::
  ((nat_lit 103 : Nat), ({ cls := Value.type "tuple", data := Data.seq #[] } : Obj)) ::
  ((nat_lit 108 : Nat), ({ cls := Value.type "tuple", data := Data.seq #[] } : Obj)) ::
  ((nat_lit 120 : Nat), ({ cls := Value.type "tuple", data := Data.seq #[] } : Obj)) ::
  ((nat_lit 125 : Nat), ({ cls := Value.type "tuple", data := Data.seq #[] } : Obj)) ::
  ((nat_lit 127 : Nat), ({ cls := Value.type "tuple", data := Data.seq #[Value.str (Str.ofString "self") 335] } : Obj)) ::
  ((nat_lit 128 : Nat), ({ cls := Value.type "tuple", data := Data.seq #[] } : Obj)) ::
  ((nat_lit 132 : Nat), ({ cls := Value.type "tuple", data := Data.seq #[Value.str (Str.ofString "left") 339, Value.str (Str.ofString "name") 340, Value.str (Str.ofString "needs") 341, Value.str (Str.ofString "right") 342] } : Obj)) ::
  ((nat_lit 133 : Nat), ({ cls := Value.type "dict", data := Data.dict #[{ hash := PyData.keyHash P (Str.ofString "__module__"), key := Value.str (Str.ofString "__module__") 321, val := Value.str (Str.ofString "alikeheap.rules") 312 }, { hash := PyData.keyHash P (Str.ofString "__firstlineno__"), key := Value.str (Str.ofString "__firstlineno__") 325, val := Value.int 36 324 }, { hash := PyData.keyHash P (Str.ofString "__init__"), key := Value.str (Str.ofString "__init__") 331, val := Value.ref 124 }, { hash := PyData.keyHash P (Str.ofString "turned"), key := Value.str (Str.ofString "turned") 338, val := Value.ref 131 }, { hash := PyData.keyHash P (Str.ofString "__static_attributes__"), key := Value.str (Str.ofString "__static_attributes__") 343, val := Value.ref 132 }, { hash := PyData.keyHash P (Str.ofString "__dict__"), key := Value.str (Str.ofString "__dict__") 345, val := Value.ref 135 }, { hash := PyData.keyHash P (Str.ofString "__weakref__"), key := Value.str (Str.ofString "__weakref__") 347, val := Value.ref 136 }, { hash := PyData.keyHash P (Str.ofString "__doc__"), key := Value.str (Str.ofString "__doc__") 348, val := Value.none }] 4 } : Obj)) ::
  ((nat_lit 134 : Nat), ({ cls := Value.type "type", data := Data.cls { name := Str.ofString "Rule", bases := [Value.type "object"], mro := [Value.ref 134, Value.type "object"], ns := 133, qualname := Str.ofString "Rule" }, slots := #[none, none, some (Value.str (Str.ofString "Rule") 314), some (Value.str (Str.ofString "Rule") 322), some (Value.builtin "object.__new__"), some (Value.bool true)] } : Obj)) ::
  ((nat_lit 135 : Nat), ({ cls := Value.type "getset_descriptor", data := Data.fields #[Value.str (Str.ofString "__dict__") 344, Value.ref 134, Value.builtin "function.__dict__", Value.builtin "function.__dict__#set"] } : Obj)) ::
  ((nat_lit 136 : Nat), ({ cls := Value.type "getset_descriptor", data := Data.fields #[Value.str (Str.ofString "__weakref__") 346, Value.ref 134, Value.builtin "ExceptionGroup.__weakref__", Value.none] } : Obj)) ::
  ((nat_lit 139 : Nat), ({ cls := Value.type "tuple", data := Data.seq #[] } : Obj)) ::
  ((nat_lit 141 : Nat), ({ cls := Value.type "tuple", data := Data.seq #[Value.str (Str.ofString "text") 360, Value.str (Str.ofString "found") 361, Value.str (Str.ofString "spot") 362, Value.str (Str.ofString "begin") 363] } : Obj)) ::
  ((nat_lit 142 : Nat), ({ cls := Value.type "tuple", data := Data.seq #[] } : Obj)) ::
  ((nat_lit 144 : Nat), ({ cls := Value.type "code", data := Data.fields #[Value.str (Str.ofString "words_of") 357, Value.str (Str.ofString "words_of") 358, Value.str (Str.ofString "/claim/cut.py") 359, Value.int 59 0, Value.int 1 0, Value.int 0 0, Value.int 0 0, Value.int 3 0, Value.ref 139, Value.bool true, Value.int 181 0, Value.ref 140, Value.none, Value.ref 141, Value.ref 142, Value.ref 143, Value.int 364 0, Value.int 59 0, Value.str (Str.ofString "/claim/cut.py") 365] } : Obj)) ::
  ((nat_lit 145 : Nat), ({ cls := Value.type "function", data := Data.func { name := Str.ofString "words_of", qualname := Str.ofString "words_of", params := P145, body := FuncBody.stmts B145, scope := S145, globals := 3, closure := [], defaults := Value.none, kwdefaults := Value.none, pyModule := Value.str (Str.ofString "alikeheap.texts") 351, code := Value.ref 144 } } : Obj)) ::
  ((nat_lit 153 : Nat), ({ cls := Value.type "tuple", data := Data.seq #[] } : Obj)) ::
  ((nat_lit 155 : Nat), ({ cls := Value.type "tuple", data := Data.seq #[Value.str (Str.ofString "self") 382, Value.str (Str.ofString "text") 383] } : Obj)) ::
  ((nat_lit 156 : Nat), ({ cls := Value.type "tuple", data := Data.seq #[] } : Obj)) ::
  ((nat_lit 158 : Nat), ({ cls := Value.type "code", data := Data.fields #[Value.str (Str.ofString "__init__") 379, Value.str (Str.ofString "Reader.__init__") 380, Value.str (Str.ofString "/claim/cut.py") 381, Value.int 79 0, Value.int 2 0, Value.int 0 0, Value.int 0 0, Value.int 3 0, Value.ref 153, Value.bool true, Value.int 181 0, Value.ref 154, Value.none, Value.ref 155, Value.ref 156, Value.ref 157, Value.int 384 0, Value.int 79 0, Value.str (Str.ofString "/claim/cut.py") 385] } : Obj)) ::
  ((nat_lit 159 : Nat), ({ cls := Value.type "function", data := Data.func { name := Str.ofString "__init__", qualname := Str.ofString "Reader.__init__", params := P159, body := FuncBody.stmts B159, scope := S159, globals := 3, closure := [], defaults := Value.none, kwdefaults := Value.none, pyModule := Value.str (Str.ofString "alikeheap.texts") 351, code := Value.ref 158 } } : Obj)) ::
  ((nat_lit 160 : Nat), ({ cls := Value.type "tuple", data := Data.seq #[] } : Obj)) ::
  ((nat_lit 162 : Nat), ({ cls := Value.type "tuple", data := Data.seq #[Value.str (Str.ofString "self") 390] } : Obj)) ::
  ((nat_lit 163 : Nat), ({ cls := Value.type "tuple", data := Data.seq #[] } : Obj)) ::
  ((nat_lit 165 : Nat), ({ cls := Value.type "code", data := Data.fields #[Value.str (Str.ofString "word") 387, Value.str (Str.ofString "Reader.word") 388, Value.str (Str.ofString "/claim/cut.py") 389, Value.int 85 0, Value.int 1 0, Value.int 0 0, Value.int 0 0, Value.int 3 0, Value.ref 160, Value.bool true, Value.int 181 0, Value.ref 161, Value.none, Value.ref 162, Value.ref 163, Value.ref 164, Value.int 391 0, Value.int 85 0, Value.str (Str.ofString "/claim/cut.py") 392] } : Obj)) ::
  ((nat_lit 166 : Nat), ({ cls := Value.type "function", data := Data.func { name := Str.ofString "word", qualname := Str.ofString "Reader.word", params := P166, body := FuncBody.stmts B166, scope := S166, globals := 3, closure := [], defaults := Value.none, kwdefaults := Value.none, pyModule := Value.str (Str.ofString "alikeheap.texts") 351, code := Value.ref 165 } } : Obj)) ::
  ((nat_lit 167 : Nat), ({ cls := Value.type "tuple", data := Data.seq #[] } : Obj)) ::
  ((nat_lit 169 : Nat), ({ cls := Value.type "tuple", data := Data.seq #[Value.str (Str.ofString "self") 397] } : Obj)) ::
  ((nat_lit 170 : Nat), ({ cls := Value.type "tuple", data := Data.seq #[] } : Obj)) ::
  ((nat_lit 172 : Nat), ({ cls := Value.type "code", data := Data.fields #[Value.str (Str.ofString "spot") 394, Value.str (Str.ofString "Reader.spot") 395, Value.str (Str.ofString "/claim/cut.py") 396, Value.int 88 0, Value.int 1 0, Value.int 0 0, Value.int 0 0, Value.int 3 0, Value.ref 167, Value.bool true, Value.int 181 0, Value.ref 168, Value.none, Value.ref 169, Value.ref 170, Value.ref 171, Value.int 398 0, Value.int 88 0, Value.str (Str.ofString "/claim/cut.py") 399] } : Obj)) ::
  ((nat_lit 173 : Nat), ({ cls := Value.type "function", data := Data.func { name := Str.ofString "spot", qualname := Str.ofString "Reader.spot", params := P173, body := FuncBody.stmts B173, scope := S173, globals := 3, closure := [], defaults := Value.none, kwdefaults := Value.none, pyModule := Value.str (Str.ofString "alikeheap.texts") 351, code := Value.ref 172 } } : Obj)) ::
  ((nat_lit 174 : Nat), ({ cls := Value.type "tuple", data := Data.seq #[] } : Obj)) ::
  ((nat_lit 176 : Nat), ({ cls := Value.type "tuple", data := Data.seq #[Value.str (Str.ofString "self") 404] } : Obj)) ::
  ((nat_lit 177 : Nat), ({ cls := Value.type "tuple", data := Data.seq #[] } : Obj)) ::
  ((nat_lit 179 : Nat), ({ cls := Value.type "code", data := Data.fields #[Value.str (Str.ofString "take") 401, Value.str (Str.ofString "Reader.take") 402, Value.str (Str.ofString "/claim/cut.py") 403, Value.int 91 0, Value.int 1 0, Value.int 0 0, Value.int 0 0, Value.int 3 0, Value.ref 174, Value.bool true, Value.int 181 0, Value.ref 175, Value.none, Value.ref 176, Value.ref 177, Value.ref 178, Value.int 405 0, Value.int 91 0, Value.str (Str.ofString "/claim/cut.py") 406] } : Obj)) ::
  ((nat_lit 180 : Nat), ({ cls := Value.type "function", data := Data.func { name := Str.ofString "take", qualname := Str.ofString "Reader.take", params := P180, body := FuncBody.stmts B180, scope := S180, globals := 3, closure := [], defaults := Value.none, kwdefaults := Value.none, pyModule := Value.str (Str.ofString "alikeheap.texts") 351, code := Value.ref 179 } } : Obj)) ::
  ((nat_lit 181 : Nat), ({ cls := Value.type "tuple", data := Data.seq #[] } : Obj)) ::
  ((nat_lit 183 : Nat), ({ cls := Value.type "tuple", data := Data.seq #[Value.str (Str.ofString "self") 411, Value.str (Str.ofString "word") 412] } : Obj)) ::
  ((nat_lit 184 : Nat), ({ cls := Value.type "tuple", data := Data.seq #[] } : Obj)) ::
  ((nat_lit 186 : Nat), ({ cls := Value.type "code", data := Data.fields #[Value.str (Str.ofString "want") 408, Value.str (Str.ofString "Reader.want") 409, Value.str (Str.ofString "/claim/cut.py") 410, Value.int 95 0, Value.int 2 0, Value.int 0 0, Value.int 0 0, Value.int 3 0, Value.ref 181, Value.bool true, Value.int 181 0, Value.ref 182, Value.none, Value.ref 183, Value.ref 184, Value.ref 185, Value.int 413 0, Value.int 95 0, Value.str (Str.ofString "/claim/cut.py") 414] } : Obj)) ::
  ((nat_lit 187 : Nat), ({ cls := Value.type "function", data := Data.func { name := Str.ofString "want", qualname := Str.ofString "Reader.want", params := P187, body := FuncBody.stmts B187, scope := S187, globals := 3, closure := [], defaults := Value.none, kwdefaults := Value.none, pyModule := Value.str (Str.ofString "alikeheap.texts") 351, code := Value.ref 186 } } : Obj)) ::
  ((nat_lit 188 : Nat), ({ cls := Value.type "tuple", data := Data.seq #[] } : Obj)) ::
  ((nat_lit 190 : Nat), ({ cls := Value.type "tuple", data := Data.seq #[Value.str (Str.ofString "self") 419] } : Obj)) ::
  ((nat_lit 191 : Nat), ({ cls := Value.type "tuple", data := Data.seq #[] } : Obj)) ::
  ((nat_lit 193 : Nat), ({ cls := Value.type "code", data := Data.fields #[Value.str (Str.ofString "op") 416, Value.str (Str.ofString "Reader.op") 417, Value.str (Str.ofString "/claim/cut.py") 418, Value.int 101 0, Value.int 1 0, Value.int 0 0, Value.int 0 0, Value.int 3 0, Value.ref 188, Value.bool true, Value.int 181 0, Value.ref 189, Value.none, Value.ref 190, Value.ref 191, Value.ref 192, Value.int 420 0, Value.int 101 0, Value.str (Str.ofString "/claim/cut.py") 421] } : Obj)) ::
  ((nat_lit 194 : Nat), ({ cls := Value.type "function", data := Data.func { name := Str.ofString "op", qualname := Str.ofString "Reader.op", params := P194, body := FuncBody.stmts B194, scope := S194, globals := 3, closure := [], defaults := Value.none, kwdefaults := Value.none, pyModule := Value.str (Str.ofString "alikeheap.texts") 351, code := Value.ref 193 } } : Obj)) ::
  ((nat_lit 195 : Nat), ({ cls := Value.type "tuple", data := Data.seq #[] } : Obj)) ::
  ((nat_lit 197 : Nat), ({ cls := Value.type "tuple", data := Data.seq #[Value.str (Str.ofString "self") 426] } : Obj)) ::
  ((nat_lit 198 : Nat), ({ cls := Value.type "tuple", data := Data.seq #[] } : Obj)) ::
  ((nat_lit 200 : Nat), ({ cls := Value.type "code", data := Data.fields #[Value.str (Str.ofString "begin") 423, Value.str (Str.ofString "Reader.begin") 424, Value.str (Str.ofString "/claim/cut.py") 425, Value.int 106 0, Value.int 1 0, Value.int 0 0, Value.int 0 0, Value.int 3 0, Value.ref 195, Value.bool true, Value.int 181 0, Value.ref 196, Value.none, Value.ref 197, Value.ref 198, Value.ref 199, Value.int 427 0, Value.int 106 0, Value.str (Str.ofString "/claim/cut.py") 428] } : Obj)) ::
  ((nat_lit 201 : Nat), ({ cls := Value.type "function", data := Data.func { name := Str.ofString "begin", qualname := Str.ofString "Reader.begin", params := P201, body := FuncBody.stmts B201, scope := S201, globals := 3, closure := [], defaults := Value.none, kwdefaults := Value.none, pyModule := Value.str (Str.ofString "alikeheap.texts") 351, code := Value.ref 200 } } : Obj)) ::
  ((nat_lit 202 : Nat), ({ cls := Value.type "tuple", data := Data.seq #[] } : Obj)) ::
  ((nat_lit 204 : Nat), ({ cls := Value.type "tuple", data := Data.seq #[Value.str (Str.ofString "self") 433] } : Obj)) ::
  ((nat_lit 205 : Nat), ({ cls := Value.type "tuple", data := Data.seq #[] } : Obj)) ::
  ((nat_lit 207 : Nat), ({ cls := Value.type "code", data := Data.fields #[Value.str (Str.ofString "close") 430, Value.str (Str.ofString "Reader.close") 431, Value.str (Str.ofString "/claim/cut.py") 432, Value.int 112 0, Value.int 1 0, Value.int 0 0, Value.int 0 0, Value.int 3 0, Value.ref 202, Value.bool true, Value.int 181 0, Value.ref 203, Value.none, Value.ref 204, Value.ref 205, Value.ref 206, Value.int 434 0, Value.int 112 0, Value.str (Str.ofString "/claim/cut.py") 435] } : Obj)) ::
  ((nat_lit 208 : Nat), ({ cls := Value.type "function", data := Data.func { name := Str.ofString "close", qualname := Str.ofString "Reader.close", params := P208, body := FuncBody.stmts B208, scope := S208, globals := 3, closure := [], defaults := Value.none, kwdefaults := Value.none, pyModule := Value.str (Str.ofString "alikeheap.texts") 351, code := Value.ref 207 } } : Obj)) ::
  ((nat_lit 209 : Nat), ({ cls := Value.type "tuple", data := Data.seq #[] } : Obj)) ::
  ((nat_lit 211 : Nat), ({ cls := Value.type "tuple", data := Data.seq #[Value.str (Str.ofString "self") 440] } : Obj)) ::
  ((nat_lit 212 : Nat), ({ cls := Value.type "tuple", data := Data.seq #[] } : Obj)) ::
  ((nat_lit 216 : Nat), ({ cls := Value.type "tuple", data := Data.seq #[] } : Obj)) ::
  ((nat_lit 218 : Nat), ({ cls := Value.type "tuple", data := Data.seq #[Value.str (Str.ofString "self") 447, Value.str (Str.ofString "found") 448] } : Obj)) ::
  ((nat_lit 219 : Nat), ({ cls := Value.type "tuple", data := Data.seq #[] } : Obj)) ::
  ((nat_lit 221 : Nat), ({ cls := Value.type "code", data := Data.fields #[Value.str (Str.ofString "term") 444, Value.str (Str.ofString "Reader.term") 445, Value.str (Str.ofString "/claim/cut.py") 446, Value.int 121 0, Value.int 1 0, Value.int 0 0, Value.int 0 0, Value.int 3 0, Value.ref 216, Value.bool true, Value.int 181 0, Value.ref 217, Value.none, Value.ref 218, Value.ref 219, Value.ref 220, Value.int 449 0, Value.int 121 0, Value.str (Str.ofString "/claim/cut.py") 450] } : Obj)) ::
  ((nat_lit 222 : Nat), ({ cls := Value.type "function", data := Data.func { name := Str.ofString "term", qualname := Str.ofString "Reader.term", params := P222, body := FuncBody.stmts B222, scope := S222, globals := 3, closure := [], defaults := Value.none, kwdefaults := Value.none, pyModule := Value.str (Str.ofString "alikeheap.texts") 351, code := Value.ref 221 } } : Obj)) ::
  ((nat_lit 223 : Nat), ({ cls := Value.type "tuple", data := Data.seq #[] } : Obj)) ::
  ((nat_lit 225 : Nat), ({ cls := Value.type "tuple", data := Data.seq #[Value.str (Str.ofString "self") 455, Value.str (Str.ofString "left") 456, Value.str (Str.ofString "kind") 457] } : Obj)) ::
  ((nat_lit 226 : Nat), ({ cls := Value.type "tuple", data := Data.seq #[] } : Obj)) ::
  ((nat_lit 230 : Nat), ({ cls := Value.type "tuple", data := Data.seq #[] } : Obj)) ::
  ((nat_lit 232 : Nat), ({ cls := Value.type "tuple", data := Data.seq #[Value.str (Str.ofString "self") 464, Value.str (Str.ofString "spot") 465, Value.str (Str.ofString "name") 466, Value.str (Str.ofString "left") 467, Value.str (Str.ofString "right") 468, Value.str (Str.ofString "needs") 469, Value.str (Str.ofString "fault") 470] } : Obj)) ::
  ((nat_lit 233 : Nat), ({ cls := Value.type "tuple", data := Data.seq #[] } : Obj)) ::
  ((nat_lit 237 : Nat), ({ cls := Value.type "tuple", data := Data.seq #[] } : Obj)) ::
  ((nat_lit 242 : Nat), ({ cls := Value.type "tuple", data := Data.seq #[] } : Obj)) ::
  ((nat_lit 244 : Nat), ({ cls := Value.type "tuple", data := Data.seq #[Value.str (Str.ofString "self") 483, Value.str (Str.ofString "found") 484] } : Obj)) ::
  ((nat_lit 245 : Nat), ({ cls := Value.type "tuple", data := Data.seq #[] } : Obj)) ::
  ((nat_lit 249 : Nat), ({ cls := Value.type "tuple", data := Data.seq #[] } : Obj)) ::
  ((nat_lit 251 : Nat), ({ cls := Value.type "tuple", data := Data.seq #[Value.str (Str.ofString "self") 491, Value.str (Str.ofString "spot") 492, Value.str (Str.ofString "kind") 493, Value.str (Str.ofString "found") 494] } : Obj)) ::
  ((nat_lit 252 : Nat), ({ cls := Value.type "tuple", data := Data.seq #[] } : Obj)) ::
  ((nat_lit 256 : Nat), ({ cls := Value.type "tuple", data := Data.seq #[Value.str (Str.ofString "deep") 498, Value.str (Str.ofString "most") 499, Value.str (Str.ofString "place") 500, Value.str (Str.ofString "words") 501] } : Obj)) ::
  ((nat_lit 257 : Nat), ({ cls := Value.type "dict", data := Data.dict #[{ hash := PyData.keyHash P (Str.ofString "__module__"), key := Value.str (Str.ofString "__module__") 374, val := Value.str (Str.ofString "alikeheap.texts") 351 }, { hash := PyData.keyHash P (Str.ofString "__firstlineno__"), key := Value.str (Str.ofString "__firstlineno__") 378, val := Value.int 77 377 }, { hash := PyData.keyHash P (Str.ofString "__init__"), key := Value.str (Str.ofString "__init__") 386, val := Value.ref 159 }, { hash := PyData.keyHash P (Str.ofString "word"), key := Value.str (Str.ofString "word") 393, val := Value.ref 166 }, { hash := PyData.keyHash P (Str.ofString "spot"), key := Value.str (Str.ofString "spot") 400, val := Value.ref 173 }, { hash := PyData.keyHash P (Str.ofString "take"), key := Value.str (Str.ofString "take") 407, val := Value.ref 180 }, { hash := PyData.keyHash P (Str.ofString "want"), key := Value.str (Str.ofString "want") 415, val := Value.ref 187 }, { hash := PyData.keyHash P (Str.ofString "op"), key := Value.str (Str.ofString "op") 422, val := Value.ref 194 }, { hash := PyData.keyHash P (Str.ofString "begin"), key := Value.str (Str.ofString "begin") 429, val := Value.ref 201 }, { hash := PyData.keyHash P (Str.ofString "close"), key := Value.str (Str.ofString "close") 436, val := Value.ref 208 }, { hash := PyData.keyHash P (Str.ofString "variable"), key := Value.str (Str.ofString "variable") 443, val := Value.ref 215 }, { hash := PyData.keyHash P (Str.ofString "term"), key := Value.str (Str.ofString "term") 451, val := Value.ref 222 }, { hash := PyData.keyHash P (Str.ofString "need"), key := Value.str (Str.ofString "need") 460, val := Value.ref 229 }, { hash := PyData.keyHash P (Str.ofString "rule"), key := Value.str (Str.ofString "rule") 473, val := Value.ref 236 }, { hash := PyData.keyHash P (Str.ofString "places"), key := Value.str (Str.ofString "places") 479, val := Value.ref 241 }, { hash := PyData.keyHash P (Str.ofString "papers"), key := Value.str (Str.ofString "papers") 487, val := Value.ref 248 }, { hash := PyData.keyHash P (Str.ofString "paper"), key := Value.str (Str.ofString "paper") 497, val := Value.ref 255 }, { hash := PyData.keyHash P (Str.ofString "__static_attributes__"), key := Value.str (Str.ofString "__static_attributes__") 502, val := Value.ref 256 }, { hash := PyData.keyHash P (Str.ofString "__dict__"), key := Value.str (Str.ofString "__dict__") 504, val := Value.ref 259 }, { hash := PyData.keyHash P (Str.ofString "__weakref__"), key := Value.str (Str.ofString "__weakref__") 506, val := Value.ref 260 }, { hash := PyData.keyHash P (Str.ofString "__doc__"), key := Value.str (Str.ofString "__doc__") 507, val := Value.none }] 4 } : Obj)) ::
  ((nat_lit 258 : Nat), ({ cls := Value.type "type", data := Data.cls { name := Str.ofString "Reader", bases := [Value.type "object"], mro := [Value.ref 258, Value.type "object"], ns := 257, qualname := Str.ofString "Reader" }, slots := #[none, none, some (Value.str (Str.ofString "Reader") 367), some (Value.str (Str.ofString "Reader") 375), some (Value.builtin "object.__new__"), some (Value.bool true)] } : Obj)) ::
  ((nat_lit 259 : Nat), ({ cls := Value.type "getset_descriptor", data := Data.fields #[Value.str (Str.ofString "__dict__") 503, Value.ref 258, Value.builtin "function.__dict__", Value.builtin "function.__dict__#set"] } : Obj)) ::
  ((nat_lit 260 : Nat), ({ cls := Value.type "getset_descriptor", data := Data.fields #[Value.str (Str.ofString "__weakref__") 505, Value.ref 258, Value.builtin "ExceptionGroup.__weakref__", Value.none] } : Obj)) ::
  ((nat_lit 263 : Nat), ({ cls := Value.type "tuple", data := Data.seq #[] } : Obj)) ::
  ((nat_lit 265 : Nat), ({ cls := Value.type "tuple", data := Data.seq #[Value.str (Str.ofString "log") 517, Value.str (Str.ofString "many") 518, Value.str (Str.ofString "spot") 519] } : Obj)) ::
  ((nat_lit 266 : Nat), ({ cls := Value.type "tuple", data := Data.seq #[] } : Obj)) ::
  ((nat_lit 268 : Nat), ({ cls := Value.type "code", data := Data.fields #[Value.str (Str.ofString "_law_hewn") 514, Value.str (Str.ofString "_law_hewn") 515, Value.str (Str.ofString "/claim/cut.py") 516, Value.int 195 0, Value.int 2 0, Value.int 0 0, Value.int 0 0, Value.int 3 0, Value.ref 263, Value.bool true, Value.int 181 0, Value.ref 264, Value.none, Value.ref 265, Value.ref 266, Value.ref 267, Value.int 520 0, Value.int 195 0, Value.str (Str.ofString "/claim/cut.py") 521] } : Obj)) ::
  ((nat_lit 269 : Nat), ({ cls := Value.type "function", data := Data.func { name := Str.ofString "_law_hewn", qualname := Str.ofString "_law_hewn", params := P269, body := FuncBody.stmts B269, scope := S269, globals := 3, closure := [], defaults := Value.none, kwdefaults := Value.none, pyModule := Value.str (Str.ofString "law_rg0116_01") 510, code := Value.ref 268 } } : Obj)) ::
  ((nat_lit 270 : Nat), ({ cls := Value.type "tuple", data := Data.seq #[] } : Obj)) ::
  ((nat_lit 273 : Nat), ({ cls := Value.type "code", data := Data.fields #[Value.str (Str.ofString "_law_cut") 523, Value.str (Str.ofString "_law_cut") 524, Value.str (Str.ofString "/claim/cut.py") 525, Value.int 201 0, Value.int 1 0, Value.int 0 0, Value.int 0 0, Value.int 3 0, Value.ref 270, Value.bool true, Value.int 181 0, Value.ref 271, Value.none, Value.none, Value.none, Value.ref 272, Value.int 526 0, Value.int 201 0, Value.str (Str.ofString "/claim/cut.py") 527] } : Obj)) ::
  ((nat_lit 274 : Nat), ({ cls := Value.type "function", data := Data.func { name := Str.ofString "_law_cut", qualname := Str.ofString "_law_cut", params := P274, body := FuncBody.stmts B274, scope := S274, globals := 3, closure := [], defaults := Value.none, kwdefaults := Value.none, pyModule := Value.str (Str.ofString "law_rg0116_01") 510, code := Value.ref 273 } } : Obj)) ::
  ((nat_lit 275 : Nat), ({ cls := Value.type "tuple", data := Data.seq #[] } : Obj)) ::
  ((nat_lit 277 : Nat), ({ cls := Value.type "tuple", data := Data.seq #[Value.str (Str.ofString "text") 532, Value.str (Str.ofString "fault") 533] } : Obj)) ::
  ((nat_lit 278 : Nat), ({ cls := Value.type "tuple", data := Data.seq #[] } : Obj)) ::
  ((nat_lit 280 : Nat), ({ cls := Value.type "code", data := Data.fields #[Value.str (Str.ofString "_law_words_told") 529, Value.str (Str.ofString "_law_words_told") 530, Value.str (Str.ofString "/claim/cut.py") 531, Value.int 208 0, Value.int 1 0, Value.int 0 0, Value.int 0 0, Value.int 3 0, Value.ref 275, Value.bool true, Value.int 181 0, Value.ref 276, Value.none, Value.ref 277, Value.ref 278, Value.ref 279, Value.int 534 0, Value.int 208 0, Value.str (Str.ofString "/claim/cut.py") 535] } : Obj)) ::
  ((nat_lit 281 : Nat), ({ cls := Value.type "function", data := Data.func { name := Str.ofString "_law_words_told", qualname := Str.ofString "_law_words_told", params := P281, body := FuncBody.stmts B281, scope := S281, globals := 3, closure := [], defaults := Value.none, kwdefaults := Value.none, pyModule := Value.str (Str.ofString "law_rg0116_01") 510, code := Value.ref 280 } } : Obj)) ::
  ((nat_lit 282 : Nat), ({ cls := Value.type "tuple", data := Data.seq #[] } : Obj)) ::
  ((nat_lit 284 : Nat), ({ cls := Value.type "tuple", data := Data.seq #[Value.str (Str.ofString "reader") 540, Value.str (Str.ofString "word") 541, Value.str (Str.ofString "spot") 542, Value.str (Str.ofString "fault") 543] } : Obj)) ::
  ((nat_lit 285 : Nat), ({ cls := Value.type "tuple", data := Data.seq #[] } : Obj)) ::
  ((nat_lit 287 : Nat), ({ cls := Value.type "code", data := Data.fields #[Value.str (Str.ofString "_law_is_refused_at") 537, Value.str (Str.ofString "_law_is_refused_at") 538, Value.str (Str.ofString "/claim/cut.py") 539, Value.int 213 0, Value.int 3 0, Value.int 0 0, Value.int 0 0, Value.int 3 0, Value.ref 282, Value.bool true, Value.int 181 0, Value.ref 283, Value.none, Value.ref 284, Value.ref 285, Value.ref 286, Value.int 544 0, Value.int 213 0, Value.str (Str.ofString "/claim/cut.py") 545] } : Obj)) ::
  ((nat_lit 288 : Nat), ({ cls := Value.type "function", data := Data.func { name := Str.ofString "_law_is_refused_at", qualname := Str.ofString "_law_is_refused_at", params := P288, body := FuncBody.stmts B288, scope := S288, globals := 3, closure := [], defaults := Value.none, kwdefaults := Value.none, pyModule := Value.str (Str.ofString "law_rg0116_01") 510, code := Value.ref 287 } } : Obj)) ::
  ((nat_lit 289 : Nat), ({ cls := Value.type "tuple", data := Data.seq #[] } : Obj)) ::
  ((nat_lit 291 : Nat), ({ cls := Value.type "tuple", data := Data.seq #[Value.str (Str.ofString "reader") 550, Value.str (Str.ofString "spot") 551, Value.str (Str.ofString "fault") 552] } : Obj)) ::
  ((nat_lit 292 : Nat), ({ cls := Value.type "tuple", data := Data.seq #[] } : Obj)) ::
  ((nat_lit 294 : Nat), ({ cls := Value.type "code", data := Data.fields #[Value.str (Str.ofString "_law_is_no_op_at") 547, Value.str (Str.ofString "_law_is_no_op_at") 548, Value.str (Str.ofString "/claim/cut.py") 549, Value.int 219 0, Value.int 2 0, Value.int 0 0, Value.int 0 0, Value.int 3 0, Value.ref 289, Value.bool true, Value.int 181 0, Value.ref 290, Value.none, Value.ref 291, Value.ref 292, Value.ref 293, Value.int 553 0, Value.int 219 0, Value.str (Str.ofString "/claim/cut.py") 554] } : Obj)) ::
  ((nat_lit 295 : Nat), ({ cls := Value.type "function", data := Data.func { name := Str.ofString "_law_is_no_op_at", qualname := Str.ofString "_law_is_no_op_at", params := P295, body := FuncBody.stmts B295, scope := S295, globals := 3, closure := [], defaults := Value.none, kwdefaults := Value.none, pyModule := Value.str (Str.ofString "law_rg0116_01") 510, code := Value.ref 294 } } : Obj)) ::
  ((nat_lit 296 : Nat), ({ cls := Value.type "tuple", data := Data.seq #[] } : Obj)) ::
  ((nat_lit 298 : Nat), ({ cls := Value.type "tuple", data := Data.seq #[Value.str (Str.ofString "reader") 559, Value.str (Str.ofString "word") 560, Value.str (Str.ofString "spot") 561] } : Obj)) ::
  ((nat_lit 299 : Nat), ({ cls := Value.type "tuple", data := Data.seq #[] } : Obj)) ::
  ((nat_lit 301 : Nat), ({ cls := Value.type "code", data := Data.fields #[Value.str (Str.ofString "_law_is_taken_right") 556, Value.str (Str.ofString "_law_is_taken_right") 557, Value.str (Str.ofString "/claim/cut.py") 558, Value.int 225 0, Value.int 3 0, Value.int 0 0, Value.int 0 0, Value.int 3 0, Value.ref 296, Value.bool true, Value.int 181 0, Value.ref 297, Value.none, Value.ref 298, Value.ref 299, Value.ref 300, Value.int 562 0, Value.int 225 0, Value.str (Str.ofString "/claim/cut.py") 563] } : Obj)) ::
  ((nat_lit 302 : Nat), ({ cls := Value.type "function", data := Data.func { name := Str.ofString "_law_is_taken_right", qualname := Str.ofString "_law_is_taken_right", params := P302, body := FuncBody.stmts B302, scope := S302, globals := 3, closure := [], defaults := Value.none, kwdefaults := Value.none, pyModule := Value.str (Str.ofString "law_rg0116_01") 510, code := Value.ref 301 } } : Obj)) ::
  ((nat_lit 303 : Nat), ({ cls := Value.type "tuple", data := Data.seq #[] } : Obj)) ::
  ((nat_lit 306 : Nat), ({ cls := Value.type "code", data := Data.fields #[Value.str (Str.ofString "_law_term") 565, Value.str (Str.ofString "_law_term") 566, Value.str (Str.ofString "/claim/cut.py") 567, Value.int 236 0, Value.int 2 0, Value.int 0 0, Value.int 0 0, Value.int 3 0, Value.ref 303, Value.bool true, Value.int 181 0, Value.ref 304, Value.none, Value.none, Value.none, Value.ref 305, Value.int 568 0, Value.int 236 0, Value.str (Str.ofString "/claim/cut.py") 569] } : Obj)) ::
  ((nat_lit 307 : Nat), ({ cls := Value.type "function", data := Data.func { name := Str.ofString "_law_term", qualname := Str.ofString "_law_term", params := P307, body := FuncBody.stmts B307, scope := S307, globals := 3, closure := [], defaults := Value.none, kwdefaults := Value.none, pyModule := Value.str (Str.ofString "law_rg0116_01") 510, code := Value.ref 306 } } : Obj)) ::
  ((nat_lit 308 : Nat), ({ cls := Value.type "tuple", data := Data.seq #[] } : Obj)) ::
  ((nat_lit 311 : Nat), ({ cls := Value.type "code", data := Data.fields #[Value.str (Str.ofString "_law_written") 571, Value.str (Str.ofString "_law_written") 572, Value.str (Str.ofString "/claim/cut.py") 573, Value.int 241 0, Value.int 2 0, Value.int 0 0, Value.int 0 0, Value.int 3 0, Value.ref 308, Value.bool true, Value.int 181 0, Value.ref 309, Value.none, Value.none, Value.none, Value.ref 310, Value.int 574 0, Value.int 241 0, Value.str (Str.ofString "/claim/cut.py") 575] } : Obj)) ::
  ((nat_lit 312 : Nat), ({ cls := Value.type "function", data := Data.func { name := Str.ofString "_law_written", qualname := Str.ofString "_law_written", params := P312, body := FuncBody.stmts B312, scope := S312, globals := 3, closure := [], defaults := Value.none, kwdefaults := Value.none, pyModule := Value.str (Str.ofString "law_rg0116_01") 510, code := Value.ref 311 } } : Obj)) ::
  ((nat_lit 313 : Nat), ({ cls := Value.type "tuple", data := Data.seq #[] } : Obj)) ::
  ((nat_lit 316 : Nat), ({ cls := Value.type "code", data := Data.fields #[Value.str (Str.ofString "law") 577, Value.str (Str.ofString "law") 578, Value.str (Str.ofString "/claim/cut.py") 579, Value.int 246 0, Value.int 1 0, Value.int 0 0, Value.int 0 0, Value.int 3 0, Value.ref 313, Value.bool true, Value.int 181 0, Value.ref 314, Value.none, Value.none, Value.none, Value.ref 315, Value.int 580 0, Value.int 246 0, Value.str (Str.ofString "/claim/cut.py") 581] } : Obj)) ::
  ((nat_lit 317 : Nat), ({ cls := Value.type "function", data := Data.func { name := Str.ofString "law", qualname := Str.ofString "law", params := P317, body := FuncBody.stmts B317, scope := S317, globals := 3, closure := [], defaults := Value.none, kwdefaults := Value.none, pyModule := Value.str (Str.ofString "law_rg0116_01") 510, code := Value.ref 316 } } : Obj)) :: []
noncomputable abbrev hdAs : List Addr := (nat_lit 2) :: (nat_lit 3) :: (nat_lit 15) :: (nat_lit 17) :: (nat_lit 18) :: (nat_lit 22) :: (nat_lit 25) :: (nat_lit 30) :: (nat_lit 31) :: (nat_lit 33) :: (nat_lit 34) :: (nat_lit 36) :: (nat_lit 37) :: (nat_lit 38) :: (nat_lit 40) :: (nat_lit 41) :: (nat_lit 43) :: (nat_lit 44) :: (nat_lit 45) :: (nat_lit 46) :: (nat_lit 47) :: (nat_lit 48) :: (nat_lit 51) :: (nat_lit 54) :: (nat_lit 59) :: (nat_lit 60) :: (nat_lit 62) :: (nat_lit 63) :: (nat_lit 65) :: (nat_lit 66) :: (nat_lit 67) :: (nat_lit 69) :: (nat_lit 70) :: (nat_lit 72) :: (nat_lit 73) :: (nat_lit 74) :: (nat_lit 75) :: (nat_lit 76) :: (nat_lit 79) :: (nat_lit 86) :: (nat_lit 87) :: (nat_lit 88) :: (nat_lit 91) :: (nat_lit 94) :: (nat_lit 95) :: (nat_lit 96) :: (nat_lit 98) :: (nat_lit 99) :: (nat_lit 103) :: (nat_lit 108) :: (nat_lit 120) :: (nat_lit 125) :: (nat_lit 127) :: (nat_lit 128) :: (nat_lit 132) :: (nat_lit 133) :: (nat_lit 134) :: (nat_lit 135) :: (nat_lit 136) :: (nat_lit 139) :: (nat_lit 141) :: (nat_lit 142) :: (nat_lit 144) :: (nat_lit 145) :: (nat_lit 153) :: (nat_lit 155) :: (nat_lit 156) :: (nat_lit 158) :: (nat_lit 159) :: (nat_lit 160) :: (nat_lit 162) :: (nat_lit 163) :: (nat_lit 165) :: (nat_lit 166) :: (nat_lit 167) :: (nat_lit 169) :: (nat_lit 170) :: (nat_lit 172) :: (nat_lit 173) :: (nat_lit 174) :: (nat_lit 176) :: (nat_lit 177) :: (nat_lit 179) :: (nat_lit 180) :: (nat_lit 181) :: (nat_lit 183) :: (nat_lit 184) :: (nat_lit 186) :: (nat_lit 187) :: (nat_lit 188) :: (nat_lit 190) :: (nat_lit 191) :: (nat_lit 193) :: (nat_lit 194) :: (nat_lit 195) :: (nat_lit 197) :: (nat_lit 198) :: (nat_lit 200) :: (nat_lit 201) :: (nat_lit 202) :: (nat_lit 204) :: (nat_lit 205) :: (nat_lit 207) :: (nat_lit 208) :: (nat_lit 209) :: (nat_lit 211) :: (nat_lit 212) :: (nat_lit 216) :: (nat_lit 218) :: (nat_lit 219) :: (nat_lit 221) :: (nat_lit 222) :: (nat_lit 223) :: (nat_lit 225) :: (nat_lit 226) :: (nat_lit 230) :: (nat_lit 232) :: (nat_lit 233) :: (nat_lit 237) :: (nat_lit 242) :: (nat_lit 244) :: (nat_lit 245) :: (nat_lit 249) :: (nat_lit 251) :: (nat_lit 252) :: (nat_lit 256) :: (nat_lit 257) :: (nat_lit 258) :: (nat_lit 259) :: (nat_lit 260) :: (nat_lit 263) :: (nat_lit 265) :: (nat_lit 266) :: (nat_lit 268) :: (nat_lit 269) :: (nat_lit 270) :: (nat_lit 273) :: (nat_lit 274) :: (nat_lit 275) :: (nat_lit 277) :: (nat_lit 278) :: (nat_lit 280) :: (nat_lit 281) :: (nat_lit 282) :: (nat_lit 284) :: (nat_lit 285) :: (nat_lit 287) :: (nat_lit 288) :: (nat_lit 289) :: (nat_lit 291) :: (nat_lit 292) :: (nat_lit 294) :: (nat_lit 295) :: (nat_lit 296) :: (nat_lit 298) :: (nat_lit 299) :: (nat_lit 301) :: (nat_lit 302) :: (nat_lit 303) :: (nat_lit 306) :: (nat_lit 307) :: (nat_lit 308) :: (nat_lit 311) :: (nat_lit 312) :: (nat_lit 313) :: (nat_lit 316) :: (nat_lit 317) :: []
theorem hdAs_eq : ∀ P, hdAs = (hd.heap_39 P).map (·.1) := fun P => by kernel_rfl
/-- the statements of the text that the head looks at -/
noncomputable def hd.view_39 : Program := view pw [0, 2, 3, 4, 6, 7, 8, 9, 11, 13, 14, 15, 16, 18, 19, 20, 21, 22, 23, 24, 25, 26, 27]

end Mine
noncomputable section
namespace Mine
/-- the top run over the tree heap -/
noncomputable def topRunT (tb : String → Option Builtin) (p : Program) (w : World) (n₀ : Nat) (ann : Option Value) : Nat → SharedT → Thread → Option SharedT
  | 0, _, _ => none
  | n + 1, s, t => match through t with
    | true => some s
    | false => match stepOk n₀ ann t with
      | false => none
      | true => match stepT (denote tb) p w s t with
        | some (s', t') => topRunT tb p w n₀ ann n s' t'
        | none => none
theorem topRun_ofT {tb : String → Option Builtin} {p : Program} {w : World} {n₀ : Nat} {ann : Option Value} : ∀ {n : Nat} {s s' : SharedT} {t : Thread}, topRunT tb p w n₀ ann n s t = some s' → topRun tb p w n₀ ann n s.abs t = some s'.abs
  | 0, _, _, _, h => by cases h
  | n + 1, s, s', t, h => by
    unfold topRunT at h
    unfold topRun
    cases ht : through t with
    | true =>
      rw [ht] at h
      cases h
      rfl
    | false =>
      rw [ht] at h
      cases hk : stepOk n₀ ann t with
      | false => rw [hk] at h; cases h
      | true =>
        rw [hk] at h
        cases hs : stepT (denote tb) p w s t with
        | none => rw [hs] at h; cases h
        | some r =>
          rw [hs] at h
          have e := stepT_spec (s' := r.1) (t' := r.2) hs
          dsimp only
          rw [e]
          exact topRun_ofT h
noncomputable def treeOf : List Obj → Nat → BT → BT
  | [], _, t => t
  | o :: r, i, t => treeOf r (i + 1) (t.ins i o)
noncomputable def boot0 (w : World) (os : OsState) : SharedT := ⟨treeOf (boot_heap w.params).objs.toList 0 .nil, (boot_heap w.params).objs.size, (boot_heap w.params).life, #[], boot_drawn, boot_toks, os⟩
theorem boot_abs (w : World) (os : OsState) : (boot0 w os).abs = ⟨boot_heap w.params, #[], boot_drawn, boot_toks, os⟩ := by kernel_rfl
theorem left_of_boot {p q : Program} {loose : List Str} {Xt : Shared → Bool} {α : Type} {Yf : Shared → α} {Ya : World → α} {N n₀ : Nat} {ann : Option Value}
    (e : opening p = plainProg p.main.scope.names) (hN : Nat.ble 600 N = true) (f : ∀ s, fenceModules? p s = some s)
    (size : ∀ w : World, ((boot_heap w.params).isNs mainGlobals, (boot_heap w.params).objs.size, (boot_heap w.params).nsMap mainGlobals "__annotations__") = (true, n₀, ann))
    {tb : String → Option Builtin} {im : List Stmt → List Str} {se : Program → List Str → List Str → (Shared → Bool) → Bool → Shared → _} (htb : treeTable = tb) (him : importedModules = im) (hse : openSeen = se)
    (run : ∀ (w : World) (os : OsState), (topRunT tb p w n₀ ann N (boot0 w os) (topStub p)).map (fun st => (fun s => (staticsOk (im p.main.body) (boot_heap w.params) s.heap && namesBound p s.heap && gensDone s && laidKept (boot_heap w.params) s.heap, se q loose (im p.main.body) Xt true s, Yf s)) st.abs) = some (true, openGood q loose, Ya w)) :
    LeftO p q loose Xt Yf Ya N := fun w => by
  subst htb him hse
  obtain ⟨⟨h, gs, d, k, os⟩, e1, e2⟩ := Option.map_eq_some_iff.mp (boot_open e hN f w)
  obtain ⟨rfl, rfl, rfl, rfl⟩ : h = boot_heap w.params ∧ gs = #[] ∧ d = boot_drawn ∧ k = boot_toks := by simpa using e2
  obtain ⟨z1, z2, z3⟩ : _ ∧ _ ∧ _ := by simpa only [Prod.mk.injEq] using size w
  obtain ⟨st, r, lk⟩ := Option.map_eq_some_iff.mp (run w os)
  obtain ⟨l1, l2, l3⟩ : _ ∧ _ ∧ _ := by simpa only [Prod.mk.injEq] using lk
  have r2 := topRun_ofT r
  rw [boot_abs] at r2
  have t : topFrom treeTable p w N ⟨boot_heap w.params, #[], boot_drawn, boot_toks, os⟩ = some st.abs := by
    unfold topFrom
    dsimp only
    rw [z1, z2, z3, r2]
    show (match staticsOk (importedModules p.main.body) (boot_heap w.params) st.abs.heap && namesBound p st.abs.heap && gensDone st.abs && laidKept (boot_heap w.params) st.abs.heap with | true => _ | false => _) = _
    rw [l1]
  unfold openEnds
  rw [e1]
  show (topFrom treeTable p w N _).map _ = _
  rw [t]
  exact congrArg some (Prod.ext l2 l3)
end Mine
end
noncomputable section
namespace Mine
noncomputable abbrev rowH : OpenRow := PySem.Challenge.rw_rg0116_01.row
noncomputable abbrev hookH : Hook := kHook hd.heap_39 hdAs hdAs_eq
theorem hd_open : opening rowH.prog = plainProg rowH.prog.main.scope.names := by kernel_rfl
theorem hd_fence : ∀ s, fenceModules? rowH.prog s = some s := fun s => by kernel_rfl
theorem hd_size : ∀ w : World, ((boot_heap w.params).isNs mainGlobals, (boot_heap w.params).objs.size, (boot_heap w.params).nsMap mainGlobals "__annotations__") = (true, 11, some (.ref 6)) := fun w => by kernel_rfl
set_option maxHeartbeats 4000000 in
theorem hd_left : LeftO rowH.prog hd.view_39 [] (fun s => xlAt hd.view_39 [] s && recOk (RowW.records rowH.toRowW) s) hookH.obs hookH.val 4530 :=
  left_of_boot (n₀ := 11) (ann := some (.ref 6)) hd_open rfl hd_fence hd_size PySem.W.Fast.te14364793385576792824 PySem.W.Fast.te5923862056798008813 PySem.W.Fast.te4187177175401517315 (fun w os => by kernel_rfl)
noncomputable def fdPos (p : Pos) : Option Stmt → Pos
  | some (.FunctionDef _ _ _ _ _ _ _ _ _ q) => q
  | _ => p
noncomputable abbrev D317 : DefRec := { name := "law", params := P317, body := B317, scope := S317, pos := fdPos ⟨0, 0, 0, 0⟩ (fnAt pw 27) }
set_option maxHeartbeats 4000000 in
theorem hd (walk : WalkO hd.view_39 [] (XL hd.view_39 []) hookH.says rowH.toRowW D317 [] fun f vs => call f vs) : PySem.Challenge.rw_rg0116_01.Holds := by
  w_on
  refine holds_law (by decide +kernel) fun said => ?_
  refine holds_open (q := hd.view_39) (loose := []) (Xt := fun s => xlAt hd.view_39 [] s && recOk (RowW.records rowH.toRowW) s) (XP := XL hd.view_39 []) (Yf := hookH.obs) (Ya := hookH.val) (YP := hookH.says) (N := 4530) hd_left (Hook.of hookH) (Hook.keeps hookH) (fun s e => xl_of s (Bool.and_eq_true_iff.mp e).1) XL.keeps (by kernel_rfl) (by kernel_rfl) (by kernel_rfl) (fun s e => recFacts_of (Bool.and_eq_true_iff.mp e).2) (by kernel_rfl) (by first | assumption | decide +kernel) (by decide +kernel) ⟨rfl, rfl, rfl, rfl, rfl, by decide +kernel⟩ ?hw walk
  case hw => w_witness2
end Mine
end
namespace Mine

/-- the callee's ground keeps all but the addresses of the list -/
noncomputable def Kp (S : List Addr) (h h' : Heap) : Prop := ∀ b o, b ∉ S → h.get? b = some o → h'.get? b = some o

theorem Kp.refl {S : List Addr} {h : Heap} : Kp S h h := fun _ _ _ e => e
theorem Kp.trans {S : List Addr} {h h' h'' : Heap} (x : Kp S h h') (y : Kp S h' h'') : Kp S h h'' := fun b o n e => y b o n (x b o n e)
theorem Kp.widen {S S' : List Addr} {h h' : Heap} (x : Kp S h h') (k : ∀ a ∈ S, a ∈ S') : Kp S' h h' := fun b o n e => x b o (fun m => n (k b m)) e


/-- the names of a frame that was just entered -/
noncomputable def bmap : List (Str × Value) → Str → Option Value
  | [] => fun _ => none
  | p :: r => fun y => if y = p.1 then some p.2 else bmap r y
theorem bmap_lookup : ∀ l : List (Str × Value), bmap l = fun y => l.lookup y
  | [] => rfl
  | p :: r => by
    funext y
    show (if y = p.1 then some p.2 else bmap r y) = List.lookup y ((p.1, p.2) :: r)
    rw [bmap_lookup r, List.lookup_cons]
    by_cases h : y = p.1
    · simp [h]
    · rw [if_neg h, beq_eq_false_iff_ne.mpr h]

/-- where a call stands: the frame of a def of the text's -/
structure Cx (w : World) (h : Heap) (A₀ : Around) (base h₀ : Heap) (cs : Scope) (outer : List Env) (L : Addr) (m : Str → Option Value) (mean : ExcName → Option Value) (mg mb : Str → Option Value) : Prop where
  B : Below A₀ base outer h₀
  F : Fr h₀ L h m
  X : (Mine.hd.heap_39 w.params).In h₀
  T : Top Mine.hd.view_39 (looseW Mine.hd.view_39 []) mean mg mb h₀
  hk : cs.kind = .function

section
variable {w : World} {A₀ : Around} {s : Shared} {base h₀ : Heap} {outer : List Env} {L a : Addr} {m : Str → Option Value} {news : List (Addr × Obj)} {mean : ExcName → Option Value} {mg mb : Str → Option Value}
  {dp un : Nat} {gd : Option (List Code)} {cn : Str} {cs : Scope} {ccd : Value} {cl : List (Str × Addr)}
  {R : Result → Shared → Prop} {name qual : Str} {params : Arguments} {body body₀ : List Stmt} {scope scope₀ : Scope} {dV kV doc pm cdv ct oc : Value} {an od : Option Addr} {osl : Array (Option Value)} {f : Addr} {args : Args} {binds : List (Str × Value)}

theorem enter (C : Cx w s.heap A₀ base h₀ cs outer L m mean mg mb) (N : News h₀ L s.heap news)
    (ho : (Mine.hd.heap_39 w.params).lookup f = some ⟨oc, od, .func (fnOf name qual params body₀ scope₀ dV kV doc pm an cdv ct), osl⟩) (hcd : codeIn (Mine.hd.heap_39 w.params) cdv qual = true) (hroom : dp < recursionLimit)
    (hbind : BindsTo s (fnOf name qual params body scope dV kV doc pm an cdv ct) args binds) (hloc : ∀ y ∈ binds, scope.names.lookup y.1 = some .local)
    (h : ∀ g L' h₁, (∀ b o, b ∉ news.map (·.1) → s.heap.get? b = some o → g.get? b = some o) → (∀ b o, g.get? b = some o → s.heap.get? b = some o) → Fr g L' h₁ (bmap binds.reverse) → News g L' h₁ news → Below (ktrTop dp un gd cn cs L a ccd cl outer) base (envX cn cs L a ccd cl :: outer) g → (Mine.hd.heap_39 w.params).In g → Top Mine.hd.view_39 (looseW Mine.hd.view_39 []) mean mg mb g →
      wpAny (model Challenge.rw_rg0116_01.row.prog w) ((ktrTop dp un gd cn cs L a ccd cl outer).deeper (envOf qual scope L' f cdv)) (execs body (envOf qual scope L' f cdv))
        (fun fl s' => R (.ok (.ret (match fl with | .ret v => v | _ => .none))) s')
        (fun e s' => wpAny (model Challenge.rw_rg0116_01.row.prog w) ((ktrTop dp un gd cn cs L a ccd cl outer).deeper (envOf qual scope L' f cdv)) (leaving (envOf qual scope L' f cdv) e) (fun _ s'' => R (.error e) s'') (fun e' s'' => R (.error e') s'') s')
        { s with heap := h₁, toks := s.toks + binds.length })
    (hco : scope.isCoroutine = false) (hgen : scope.isGenerator = false) (hk : scope.kind = .function)
    (hcell : ∀ x ∈ scope.names, x.2 ≠ .cell) (eb : body₀ = body) (es : scope₀ = scope) : codeAny (model Challenge.rw_rg0116_01.row.prog w) (ktrTop dp un gd cn cs L a ccd cl outer) (.call (.ref f) args) R s := by
  obtain rfl := eb.symm
  obtain rfl := es.symm
  obtain ⟨FG, BG, st, lv⟩ := groundX (A := ktrTop dp un gd cn cs L a ccd cl outer) (R := R) C.B C.F N rfl rfl C.hk
  refine codeAny_call_def (fd := fnOf name qual params body scope dV kV doc pm an cdv ct) (body := body) (binds := binds) hroom ((C.X.keeps C.F.keep) _ _ ho) rfl (C.T.nolimit.keeps C.F.keep) (codeRec_of (C.X.keeps C.F.keep) hcd) rfl hbind hcell hloc (fun h₁ hns hk₁ => ?_) hco hgen hk
  exact h _ s.heap.objs.size h₁ (fun b o nb e => hideAll_get _ e nb) (fun b o e => of_hideAll _ e) ⟨by rw [bmap_lookup]; exact hns, fun b o e => hk₁ b o (of_hideAll _ e), Nat.le_of_eq (hideAll_size _ _)⟩
    (fun p hp => ⟨hk₁ _ _ (N p hp).1, Nat.ne_of_lt (Heap.lt_size (N p hp).1), hideAll_none _ (List.mem_map_of_mem hp)⟩) BG (C.X.keeps st) (C.T.keeps st)
end

section
variable {w : World} {A₀ A : Around} {s : Shared} {base h₀ : Heap} {outer : List Env} {L : Addr} {m : Str → Option Value} {env : Env} {news : List (Addr × Obj)} {mean : ExcName → Option Value} {mg mb : Str → Option Value}

theorem kp_fr {S : List Addr} {h h' : Heap} (F : Fr h₀ L h m) (k : Kp S h h') (h1 : L ∉ S) (h2 : ∀ a ∈ S, h₀.get? a = none) : Fr h₀ L h' m :=
  ⟨F.ns.at' fun o e => k L o h1 e, fun b o e => k b o (fun q => by have := h2 b q; rw [e] at this; cases this) (F.keep b o e), F.above⟩
theorem kp_news {S : List Addr} {h h' : Heap} (N : News h₀ L h news) (k : Kp S h h') (h1 : ∀ p ∈ news, p.1 ∉ S) : News h₀ L h' news :=
  fun p hp => ⟨k _ _ (h1 p hp) (N p hp).1, (N p hp).2⟩
theorem kp_nil {h h' : Heap} (k : Kp [] h h') : ∀ b o, h.get? b = some o → h'.get? b = some o := fun b o e => k b o (by simp) e
/-- a frame's names, some of them told outright -/
noncomputable def over : List (Str × Value) → (Str → Option Value) → Str → Option Value
  | [], m => m
  | p :: r, m => fun y => if y = p.1 then some p.2 else over r m y
theorem over_eq {m : Str → Option Value} : ∀ {l : List (Str × Value)}, (∀ p ∈ l, m p.1 = some p.2) → over l m = m
  | [], _ => rfl
  | p :: r, k => by
    funext y
    show (if y = p.1 then some p.2 else over r m y) = m y
    rw [over_eq fun q hq => k q (.tail _ hq)]
    by_cases h : y = p.1
    · rw [if_pos h, h, k p (.head _)]
    · rw [if_neg h]
theorem fr_over {h : Heap} (l : List (Str × Value)) (F : Fr h₀ L h m) (k : ∀ p ∈ l, m p.1 = some p.2) : Fr h₀ L h (over l m) := by
  rw [over_eq k]
  exact F
end
end Mine
namespace Mine
/- where the walk stops: each lemma is the identity, its shape is what counts -/
noncomputable def isStopS : Stmt → Bool
  | .While _ _ _ _ => true
  | .Raise _ _ _ => true
  | .For _ _ _ _ _ => true
  | .Try _ _ _ _ _ => true
  | .Assign _ (.ListComp _ _ _ _) _ => true
  | _ => false
noncomputable def isStopV : Value → Bool
  | .builtin n => n == "sorted" || n == "str.replace"
  | .type n => n == "zip"
  | _ => false
section
variable {M : Model} {A : Around} {E : Value → Shared → Prop} {s : Shared}
theorem stop_at (l : List Nat) {n : Nat} {xs : List Value} {Q : Value → Shared → Prop} (_ : l.contains n = true) (k : wpAny M A (call (.ref n) xs) Q E s) : wpAny M A (call (.ref n) xs) Q E s := k
theorem stop_bl {f : Value} {xs : List Value} {Q : Value → Shared → Prop} (_ : isStopV f = true) (k : wpAny M A (call f xs) Q E s) : wpAny M A (call f xs) Q E s := k
theorem stop_st {st : Stmt} {env : Env} {Q : Flow → Shared → Prop} (_ : isStopS st = true) (k : wpAny M A (exec st env) Q E s) : wpAny M A (exec st env) Q E s := k
theorem stop_lc {e : PySem.Expr} {gs} {c1 c2} {env : Env} {Q : Value → Shared → Prop} (k : wpAny M A (eval (PySem.Expr.ListComp e gs c1 c2) env) Q E s) : wpAny M A (eval (PySem.Expr.ListComp e gs c1 c2) env) Q E s := k
theorem stop_jp {a} {b} {Q : Value → Shared → Prop} (k : wpAny M A (joinParts a (evalEach [] b)) Q E s) : wpAny M A (joinParts a (evalEach [] b)) Q E s := k
theorem stop_ga {a : Addr} {b c} {Q : Value → Shared → Prop} (k : wpAny M A (getAttr (Value.ref a) b c) Q E s) : wpAny M A (getAttr (Value.ref a) b c) Q E s := k
theorem stop_pi {a : Value} {Q : Value → Shared → Prop} (k : wpAny M A (pyIter a) Q E s) : wpAny M A (pyIter a) Q E s := k
theorem stop_ne {a b : Value} {Q : Value → Shared → Prop} (k : wpAny M A (compareOp CmpOp.NotEq a b) Q E s) : wpAny M A (compareOp CmpOp.NotEq a b) Q E s := k
theorem stop_eq {a b : Value} {Q : Value → Shared → Prop} (k : wpAny M A (compareOp CmpOp.Eq a b) Q E s) : wpAny M A (compareOp CmpOp.Eq a b) Q E s := k
theorem stop_cw {a b c d} {f : Addr} {Q : Value → Shared → Prop} (k : wpAny M A (callWith a (.ref f) b c d) Q E s) : wpAny M A (callWith a (.ref f) b c d) Q E s := k
theorem stop_cr {n : Nat} {xs : List Value} {Q : Value → Shared → Prop} (k : wpAny M A (call (.ref n) xs) Q E s) : wpAny M A (call (.ref n) xs) Q E s := k
end
section
variable {α β : Type} {P : α → Prop} {R : β → Prop} {a : α} {l m k : List α}
/- lists within lists, by small terms -/
theorem all_nil : ∀ p ∈ ([] : List α), P p := fun _ h => nomatch h
theorem all_cons (h : P a) (t : ∀ p ∈ l, P p) : ∀ p ∈ a :: l, P p := List.forall_mem_cons.mpr ⟨h, t⟩
theorem all_app (h : ∀ p ∈ l, P p) (t : ∀ p ∈ m, P p) : ∀ p ∈ l ++ m, P p := fun p e => (List.mem_append.mp e).elim (h p) (t p)
theorem sub_tail (t : ∀ p ∈ l, p ∈ m) : ∀ p ∈ a :: l, p ∈ a :: m := all_cons (.head _) fun p h => .tail _ (t p h)
theorem sub_skip (t : ∀ p ∈ l, p ∈ m) : ∀ p ∈ l, p ∈ a :: m := fun p h => .tail _ (t p h)
theorem sub_l : ∀ p ∈ l, p ∈ l ++ m := fun _ h => List.mem_append_left _ h
theorem sub_r : ∀ p ∈ m, p ∈ l ++ m := fun _ h => List.mem_append_right _ h
theorem sub_ll (t : ∀ p ∈ l, p ∈ m) : ∀ p ∈ l, p ∈ m ++ k := fun p h => List.mem_append_left _ (t p h)
theorem sub_lr (t : ∀ p ∈ l, p ∈ m) : ∀ p ∈ l, p ∈ k ++ m := fun p h => List.mem_append_right _ (t p h)
theorem sub_swap (l m k : List α) : ∀ p ∈ l ++ (m ++ k), p ∈ m ++ (l ++ k) := all_app (fun _ h => List.mem_append_right _ (List.mem_append_left _ h)) (all_app (fun _ h => List.mem_append_left _ h) (fun _ h => List.mem_append_right _ (List.mem_append_right _ h)))
theorem sub_rot (o l m : List α) : ∀ p ∈ l ++ (m ++ o), p ∈ o ++ (l ++ m) := all_app (sub_lr sub_l) (all_app (sub_lr sub_r) sub_l)
theorem sub_rot2 (o l m k : List α) : ∀ p ∈ o ++ (l ++ m), p ∈ l ++ ((m ++ o) ++ k) := all_app (sub_lr (sub_ll sub_r)) (all_app sub_l (sub_lr (sub_ll sub_l)))
theorem sub_rot3 (o l m : List α) : ∀ p ∈ o ++ (l ++ m), p ∈ l ++ (m ++ o) := all_app (sub_lr sub_r) (all_app sub_l (sub_lr sub_l))
theorem off_map {f : α → β} (e : m.map f = l.map f) (h : ∀ p ∈ l, R (f p)) : ∀ p ∈ m, R (f p) := fun p hp => by
  have h1 : f p ∈ l.map f := e ▸ List.mem_map_of_mem hp
  obtain ⟨q, hq, e2⟩ := List.mem_map.mp h1
  rw [← e2]
  exact h q hq
end
/- room under a bound, by small terms -/
theorem room2 {x k a b c : Nat} (h : x + b < c) (e : Nat.ble (k + a) b = true) : x + k + a < c := by
  have := Nat.le_of_ble_eq_true e
  omega
theorem room1 {x a b c : Nat} (h : x + b < c) (e : Nat.ble a b = true) : x + a < c := by
  have := Nat.le_of_ble_eq_true e
  omega
theorem room0 {x b c : Nat} (h : x + b < c) : x < c := by omega
end Mine
namespace Mine
local macro_rules | `(tactic| k_all) => `(tactic| assumption)
/- Hewn -/
theorem freshHewn : True := by
  w_top off
  trivial
theorem fillIt : (fun (_ : OpenLaw) (_ : Params → Frag) => True) PySem.Challenge.rw_rg0116_01 Mine.hd.heap_39 := by
  k_fill
  trivial
noncomputable abbrev LogIs (w : World) (o : Obj) (cl : Addr) (k : Int) (t : Tok) : Prop := o.IsDictOf (PySem.strKind Challenge.rw_rg0116_01.row.prog w) [("cells", .ref cl), ("spot", .int k t)]
set_option maxHeartbeats 4000000 in
theorem hewn_ok {w : World} {A₀ : Around} {s : Shared} {base h₀ : Heap} {outer : List Env} {L a : Addr} {m : Str → Option Value} {mean : ExcName → Option Value} {mg mb : Str → Option Value} {Q : Value → Shared → Prop} {E : Value → Shared → Prop} {dp un : Nat} {gd : Option (List Code)} {cn : Str} {cs : Scope} {ccd : Value} {cll : List (Str × Addr)}
    {ld cl : Addr} {k many : Int} {t3 tm : Tok} {o : Obj} {vs : List Value} {ns : List Int}
    (C : Cx w s.heap A₀ base h₀ cs outer L m mean mg mb) (N : News h₀ L s.heap [(ld, o)]) (ho : LogIs w o cl k t3)
    (hcl : s.heap.IsList cl vs.toArray) (hi : IntsAre vs ns) (hlen : ns.length ≤ 50) (h0 : 0 ≤ k) (hk : k ≤ 10000) (hm : 0 < many) (hm2 : many < 1000) (hd : dp + 3 < recursionLimit) (hu : un + 24 < cLine)
    (hQ : ∀ r t h' tk' t3', 0 ≤ r → r < many → Kp [ld] s.heap h' → ∀ o', h'.get? ld = some o' → LogIs w o' cl (k + 1) t3' → Q (.int r t) { s with heap := h', toks := tk' }) :
    wpAny (model Challenge.rw_rg0116_01.row.prog w) (ktrTop dp un gd cn cs L a ccd cll outer) (call (.ref 269) [.ref ld, .int many tm]) Q E s := by
  have hne : cl ≠ ld := by
    rintro rfl
    obtain ⟨o1, ho1, _, n', hd'⟩ := hcl
    have := (N _ (List.mem_singleton.mpr rfl)).1
    rw [ho1] at this
    cases this
    obtain ⟨_, _, _, hd2, _⟩ := ho
    rw [hd'] at hd2
    cases hd2
  refine wpAny_call ?_
  with_unfolding_all refine' enter (binds := [("log", .ref ld), ("many", .int many tm)]) ?kC ?kN ?k6 ?k7 ?k8 ?k9 ?kB ?_ ?c2 ?c3 ?c4 ?c5 ?eb ?es
  k_dflt ((case kC => assumption); (case kN => assumption); (case k6 => k_is); (case eb => (conv => lhs; whnf)); (case es => (conv => lhs; whnf)); (case k7 => k_is); (case k8 => first | exact room0 (by assumption) | omega); (case k9 => exact BindsTo.of_eq rfl); (case c5 => decide); (case kB => exact locs rfl); (case c2 => exact rfl); (case c3 => exact rfl); (case c4 => exact rfl))
  intro g' L' h' hg' hs' F' N' B' X' T'
  dsimp only [List.reverse, List.reverseAux, bmap, List.length] at F' ⊢
  k_fold
  have hcl' : g'.IsList cl vs.toArray := by
    obtain ⟨o, ho, r⟩ := hcl
    exact ⟨o, hg' _ _ (by simpa using hne) ho, r⟩
  have ho' := ho
  unfold LogIs at ho'
  (repeat' (first | (k_unfold; (try dsimp only)) | ((fail_if_success (with_reducible first | refine stop_at [] (by decide) ?_ | refine stop_st (by decide) ?_ | refine stop_bl (by decide) ?_ | refine stop_lc ?_ | refine stop_jp ?_ | show LCg.CompSrc _ _ _ _ _ _ _ _ _ _ _ _ _ _ | show LCt.CompSrcT _ _ _ _ _ _ _ _ _ _ _ _ _ _ _)); (first | walk1 | (dsimp only; first | walk1 | (k_unfold; (try dsimp only)))))))
  all_goals (
    rename Obj.IsDictOf _ _ [_, (_, Value.int (k + 1) _)] => D2
    rename News _ _ _ [(_, _)] => N2
    rename Fr _ _ _ _ => F2
    exact hQ _ _ _ _ _ (fmod_lo _ hm) (fmod_hi _ hm) (fun b o1 hb e => F2.keep b o1 (hg' b o1 (by simpa using hb) e)) _ (N2.get (.head _)) D2)
/- IsOp -/
theorem freshIsOp : True := by
  w_top off
  trivial
noncomputable def badSign (c : Str) : Bool := Txt.isspace c || !(Builtin.Str.occurrences (Str.ofString "()[]{},:") c 0 (Str.length (Str.ofString "()[]{},:")) 1).isEmpty
noncomputable def isOp (t : Str) : Bool := (t != Str.ofString "") && ((signs t).filter badSign).isEmpty
theorem keeps_self (s : Shared) : Keeps s s := ⟨s.heap, s.toks, rfl, fun _ _ e => e⟩
theorem keeps_toks (s : Shared) (n : Nat) : Keeps s { s with toks := n } := ⟨s.heap, n, rfl, fun _ _ e => e⟩
set_option maxHeartbeats 4000000 in
theorem isop_ok {w : World} {A₀ : Around} {s : Shared} {base h₀ : Heap} {outer : List Env} {L a : Addr} {m : Str → Option Value} {mean : ExcName → Option Value} {mg mb : Str → Option Value} {Q : Value → Shared → Prop} {E : Value → Shared → Prop} {dp un : Nat} {gd : Option (List Code)} {cn : Str} {cs : Scope} {ccd : Value} {cll : List (Str × Addr)}
    {t : Str} {tk : Tok}
    (C : Cx w s.heap A₀ base h₀ cs outer L m mean mg mb) (hlen : t.length ≤ 1000) (hd : dp + 3 < recursionLimit) (hu : un + 24 < cLine)
    (hQ : ∀ h' tk', Kp [] s.heap h' → Q (.bool (isOp t)) { s with heap := h', toks := tk' }) :
    wpAny (model Challenge.rw_rg0116_01.row.prog w) (ktrTop dp un gd cn cs L a ccd cll outer) (call (.ref 95) [.str t tk]) Q E s := by
  have N : News h₀ L s.heap [] := News.nil
  refine wpAny_call ?_
  with_unfolding_all refine' enter (binds := [("text", .str t tk)]) ?kC ?kN ?k6 ?k7 ?k8 ?k9 ?kB ?_ ?c2 ?c3 ?c4 ?c5 ?eb ?es
  k_dflt ((case kC => assumption); (case kN => assumption); (case k6 => k_is); (case eb => (conv => lhs; whnf)); (case es => (conv => lhs; whnf)); (case k7 => k_is); (case k8 => first | exact room0 (by assumption) | omega); (case k9 => exact BindsTo.of_eq rfl); (case c5 => decide); (case kB => exact locs rfl); (case c2 => exact rfl); (case c3 => exact rfl); (case c4 => exact rfl))
  intro g' L' h' hg' hs' F' N' B' X' T'
  dsimp only [List.reverse, List.reverseAux, bmap, List.length] at F' ⊢
  k_fold
  (repeat' (first | (k_unfold; (try dsimp only)) | ((fail_if_success (with_reducible first | refine stop_at [] (by decide) ?_ | refine stop_st (by decide) ?_ | refine stop_bl (by decide) ?_ | refine stop_lc ?_ | refine stop_jp ?_ | show LCg.CompSrc _ _ _ _ _ _ _ _ _ _ _ _ _ _ | show LCt.CompSrcT _ _ _ _ _ _ _ _ _ _ _ _ _ _ _)); (first | walk1 | (dsimp only; first | walk1 | (k_unfold; (try dsimp only)))))))
  · refine' ListComp_signsD (h₀ := g') (L := L') (news := []) (pz := badSign) (d := PyData.str) rfl (by decide) (by decide) (by rfl) (by decide) (by rfl) ?hh (by intro _; rfl)
    case hh =>
     refine ld F' rfl ?_
     refine ⟨t, _, rfl, by rw [sizeLine_eq]; omega, F', N', ?_, ?_, ?_⟩
     · intro C1 c v s₂ m₂ E' hv hns hm
       obtain ⟨u, rfl⟩ := hv
       (repeat' (first | (k_unfold; (try dsimp only)) | ((fail_if_success (with_reducible first | refine stop_at [] (by decide) ?_ | refine stop_st (by decide) ?_ | refine stop_bl (by decide) ?_ | refine stop_lc ?_ | refine stop_jp ?_ | show LCg.CompSrc _ _ _ _ _ _ _ _ _ _ _ _ _ _ | show LCt.CompSrcT _ _ _ _ _ _ _ _ _ _ _ _ _ _ _)); (first | walk1 | (dsimp only; first | walk1 | (k_unfold; (try dsimp only)))))))
       all_goals (first | exact keeps_self _ | exact keeps_toks _ _ | (unfold badSign; simp_all))
     · intro C1 c v s₂ m₂ E' hv hp hns hm
       obtain ⟨u, rfl⟩ := hv
       (repeat' (first | (k_unfold; (try dsimp only)) | ((fail_if_success (with_reducible first | refine stop_at [] (by decide) ?_ | refine stop_st (by decide) ?_ | refine stop_bl (by decide) ?_ | refine stop_lc ?_ | refine stop_jp ?_ | show LCg.CompSrc _ _ _ _ _ _ _ _ _ _ _ _ _ _ | show LCt.CompSrcT _ _ _ _ _ _ _ _ _ _ _ _ _ _ _)); (first | walk1 | (dsimp only; first | walk1 | (k_unfold; (try dsimp only)))))))
       · exact .str _ _
       · exact keeps_self _
     · intro D ys h2 tk2 F2 N2 hD hl hpl hc
       (repeat' (first | (k_unfold; (try dsimp only)) | ((fail_if_success (with_reducible first | refine stop_at [] (by decide) ?_ | refine stop_st (by decide) ?_ | refine stop_bl (by decide) ?_ | refine stop_lc ?_ | refine stop_jp ?_ | show LCg.CompSrc _ _ _ _ _ _ _ _ _ _ _ _ _ _ | show LCt.CompSrcT _ _ _ _ _ _ _ _ _ _ _ _ _ _ _)); (first | walk1 | (dsimp only; first | walk1 | (k_unfold; (try dsimp only)))))))
       rename News _ _ _ [(_, _), (D, _)] => N3
       rename Fr _ _ _ _ => F3
       have hlen : ys.length = ((signs t).filter badSign).length := by rw [hc.length_eq, List.length_map]
       have h1 := N3.isList (.tail _ (.head _))
       have h2 := N3.isList (.head _)
       rename (t != Str.ofString "") = true => ht
       by_cases hy : ys = []
       · refine SeqAt.eq_listAt h1 h2 (by simp [hy]) (by show un + 3 < cLine; omega) (e := fun _ => true) (fun j h _ => absurd h (by simp [hy])) ?_
         try k_unfold
         try dsimp only
         have he : isOp t = true := by
           rw [hy] at hlen
           unfold isOp
           rw [ht, List.length_eq_zero_iff.mp hlen.symm]
           rfl
         rw [show (List.range ys.toArray.size).all (fun _ => true) = true from by simp, ← he]
         exact hQ _ _ (fun b o hb e => F3.keep b o (hg' b o (by simp) e))
       · refine SeqAt.eq_list_lengthsAt h1 h2 (by simpa using hy) (by show un + 3 < cLine; omega) ?_
         try k_unfold
         try dsimp only
         have he : isOp t = false := by
           unfold isOp
           rw [ht, Bool.true_and]
           cases hf : (signs t).filter badSign with
           | nil => rw [hf] at hlen; exact absurd (List.length_eq_zero_iff.mp hlen) hy
           | cons x r => rfl
         rw [← he]
         exact hQ _ _ (fun b o hb e => F3.keep b o (hg' b o (by simp) e))
  · rename (t != Str.ofString "") = false => ht
    have he : isOp t = false := by
      unfold isOp
      rw [ht]
      rfl
    rw [ht, ← he]
    exact hQ _ _ (fun b o hb e => F'.keep b o (hg' b o (by simp) e))
theorem isop_use {w : World} {A₀ : Around} {s : Shared} {base h₀ : Heap} {outer : List Env} {L a : Addr} {m : Str → Option Value} {mean : ExcName → Option Value} {mg mb : Str → Option Value} {Q : Value → Shared → Prop} {E : Value → Shared → Prop} {dp un : Nat} {gd : Option (List Code)} {cn : Str} {cs : Scope} {ccd : Value} {cll : List (Str × Addr)}
    {t : Str} {tk : Tok} {news : List (Addr × Obj)}
    (B : Below A₀ base outer h₀) (F : Fr h₀ L s.heap m) (X : (Mine.hd.heap_39 w.params).In h₀) (T : Top Mine.hd.view_39 (looseW Mine.hd.view_39 []) mean mg mb h₀) (hk : cs.kind = .function) (N : News h₀ L s.heap news) (hlen : t.length ≤ 1000) (hd : dp + 3 < recursionLimit) (hu : un + 24 < cLine)
    (h : ∀ h' tk', Fr h₀ L h' m → News h₀ L h' news → Q (.bool (isOp t)) { s with heap := h', toks := tk' }) :
    wpAny (model Challenge.rw_rg0116_01.row.prog w) (ktrTop dp un gd cn cs L a ccd cll outer) (call (.ref 95) [.str t tk]) Q E s :=
  isop_ok ⟨B, F, X, T, hk⟩ hlen hd hu fun h' tk' kp => h h' tk' (F.keeps (kp_nil kp)) (N.grown (kp_nil kp))
/- Exc -/
theorem freshExc : True := by
  w_top off
  trivial
section
open Builtin Builtin.ObjectAttr
/-- the mro of the text's own exception behind itself -/
noncomputable abbrev tfTail : List Value := [.ref 47, .type "Exception", .type "BaseException", .type "object"]
section
variable {w : World} {h : Heap}
theorem tf_obj (X : (Mine.hd.heap_39 w.params).In h) : ∃ nm q N bs sn sub ab col dd k0 k1 k2 k3 k5, h.get? 76 = some (excClassObj nm q 76 N bs tfTail true sn sub ab col dd k0 k1 k2 k3 k5 "Exception.__new__") :=
  ⟨_, _, _, _, _, _, _, _, _, _, _, _, _, _, X 76 _ rfl⟩
end
section
variable {prog : Program} {w : World} {M : Model} {A : Around} {E : Value → Shared → Prop} {R : Result → Shared → Prop} {h : Heap} {g : Array GenState} {d : Drawn} {t : Nat} {os : OsState}
variable {nm q : Str} {N : Addr} {bs : List Value} {hdct : Bool} {sn : List Str} {sub : List Value} {ab : Bool} {col : Option Bool} {dd : Option Addr} {k0 k1 k2 k3 k5 : Option Value}
theorem tf_check_new {rest : List Value} {Q : Unit → Shared → Prop} (hC : h.get? 76 = some (excClassObj nm q 76 N bs tfTail hdct sn sub ab col dd k0 k1 k2 k3 k5 "Exception.__new__"))
    (hq : Q () ⟨h, g, d, t, os⟩) : wpAny M A (checkBuiltinCall "Exception.__new__" ⟨.ref 76 :: rest, []⟩) Q E ⟨h, g, d, t, os⟩ := by
  have F := PySem.F.excBase_Exception
  have hcont : (Value.ref 76 :: tfTail).contains (.type "Exception") = true := by decide +kernel
  have hstar := F.noStar
  simp only [checkBuiltinCall, F.newKind, F.newSplit, F.newRow]
  repeat (first | refine wpAny_loadPart_at hC ?_ | (refine wpAny_isSubtype_exc hC ?_; rw [hcont]) | refine wpAny_staticBase_exc hC ?_ | refine wpAny_madeBy_exc hC ?_ | simp only [bne_self_eq_false, Bool.false_eq_true, if_false] | wp_step)
  exact hq
theorem tf_new {rest : List Value} (hC : h.get? 76 = some (excClassObj nm q 76 N bs tfTail hdct sn sub ab col dd k0 k1 k2 k3 k5 "Exception.__new__"))
    (hq : R (.ok (.ret (.ref (h.objs.size + 1)))) ⟨(h.push { cls := .type "tuple", data := .seq rest.toArray }).push
      { cls := .ref 76, data := .fields #[.ref h.objs.size, .none, .none, .none, .bool false, .none] }, g, d, t, os⟩) (hrest : rest.length ≤ sizeLine) :
    codeAny (model prog w) A (.builtin "Exception.__new__" ⟨.ref 76 :: rest, []⟩) R ⟨h, g, d, t, os⟩ := by
  have F := PySem.F.excBase_Exception
  have hends := F.ends
  have hcB : (Value.ref 76 :: tfTail).contains (.type "Exception") = true := by decide +kernel
  have hcA : (Value.ref 76 :: tfTail).contains (.type "AttributeError") = false := by decide +kernel
  have hcN : (Value.ref 76 :: tfTail).contains (.type "NameError") = false := by decide +kernel
  refine codeAny_builtinAt F.entry ?_
  unfold Builtin.«BaseException.__new__»
  refine _root_.PySem.wpAt_bind ?_
  show _root_.PySem.wpAt _ _ _ (stack >>= _) _ _ _
  refine _root_.PySem.wpAt_bind (_root_.PySem.wpAt_stack fun p below => _root_.PySem.wpAt_of_wpAny ?_)
  wp_walk
  refine _root_.PySem.wpAt_of_wpAny ?_
  rw [F.owner]
  repeat (first | with_reducible refine wpAny_madeHere_exc F.canon hC ?_ | with_reducible refine wpAny_loadPart_at hC ?_ | (with_reducible refine wpAny_isSubtype_exc hC ?_; first | rw [hcB] | rw [hcA] | rw [hcN]) | wp_step)
  show R _ _
  rw [Heap.size_push]
  exact hq
theorem tf_make {rest : List Value} {Q : Fin → Shared → Prop} (X : (Mine.hd.heap_39 w.params).In h)
    (hq : ∀ h' e, Heap.MadeExcOf h h' e (.ref 76) rest →
      wpAny (model prog w) A (call (.ref 66) (.ref e :: rest)) (fun r s' => r = .none ∧ Q (.done (.ret (.ref e))) s') E ⟨h', g, d, t, os⟩) (hrest : rest.length ≤ sizeLine) :
    wpAny (model prog w) A (Builtin.«type.__call__» ⟨.ref 76 :: rest, []⟩) Q E ⟨h, g, d, t, os⟩ := by
  obtain ⟨nm, q, N, bs, sn, sub, ab, col, dd, k0, k1, k2, k3, k5, hC⟩ := tf_obj X
  have F := PySem.F.excBase_Exception
  repeat (first | with_reducible refine wpAny_loadPart_at hC ?_ | with_reducible refine wpAny_madeBy_exc hC ?_ | wp_step)
  refine codeAny_call_builtin_code (Code.quiet_builtin _ F.quiet) (tf_check_new hC ?_)
  refine tf_new hC ?_ hrest
  show wpAny _ _ _ _ _ _
  have up : ∀ b o, h.get? b = some o → ((h.push { cls := .type "tuple", data := .seq rest.toArray }).push { cls := .ref 76, data := .fields #[.ref h.objs.size, .none, .none, .none, .bool false, .none] }).get? b = some o :=
    fun b o e => Heap.get?_push_of_some _ (Heap.get?_push_of_some _ e)
  have hC₁ := up _ _ hC
  have X₁ : (Mine.hd.heap_39 w.params).In _ := fun b o e => up b o (X b o e)
  have hget : ((h.push { cls := .type "tuple", data := .seq rest.toArray }).push
      { cls := .ref 76, data := .fields #[.ref h.objs.size, .none, .none, .none, .bool false, .none] }).get? (h.objs.size + 1) = some
      { cls := .ref 76, data := .fields #[.ref h.objs.size, .none, .none, .none, .bool false, .none] } := by heap_get
  have hcC : (Value.ref 76 :: tfTail).contains (.ref 76) = true := by decide +kernel
  unfold isInstance
  repeat (first | with_reducible refine wpAny_loadPart_at hget ?_ | (with_reducible refine wpAny_isSubtype_exc hC₁ ?_; rw [hcC]) | wp_step)
  show wpAny _ _ (typeLookup (.ref 76) _) _ _ _
  refine Looks.at (looks_findIn X₁ (name := "__init__") (r := some (.ref 66)) (by kernel_rfl)) ?_
  refine wpAny_holding (wpAny_bind ?_)
  refine Looks.at (bind_fn X₁ _ (f := 66) (by kernel_rfl)) ?_
  refine (wpAny_bind (wpAny_mono (hq _ (h.objs.size + 1) ⟨up, Heap.get?_none_of_le (Nat.le_succ _), h.objs.size, hget, Heap.get?_none_of_le (Nat.le_refl _), ?_⟩) (fun r s' hr => ?_) fun _ _ x => x))
  · exact Heap.get?_push_of_some _ (Heap.get?_push_at rfl rfl)
  · obtain ⟨rfl, hQ⟩ := hr
    wp_walk
    exact hQ
theorem tf_call {rest : List Value} {Q : Value → Shared → Prop} (X : (Mine.hd.heap_39 w.params).In h)
    (hq : ∀ h' e, Heap.MadeExcOf h h' e (.ref 76) rest →
      wpAny (model prog w) (A.under (.builtin "type.__call__" ⟨.ref 76 :: rest, []⟩)) (call (.ref 66) (.ref e :: rest)) (fun r s' => r = .none ∧ Q (.ref e) s') E ⟨h', g, d, t, os⟩) (hrest : rest.length ≤ sizeLine) :
    wpAny (model prog w) A (call (.ref 76) rest) Q E ⟨h, g, d, t, os⟩ := by
  obtain ⟨nm, q, N, bs, sn, sub, ab, col, dd, k0, k1, k2, k3, k5, hC⟩ := tf_obj X
  have f1 := tc_lookup
  have f2 := tc_bind (.ref 76)
  have hT : (⟨h, g, d, t, os⟩ : Shared).TypeIs (.ref 76) "type" := ⟨_, hC, rfl⟩
  refine wpAny_call (codeAny_of_tree ?_)
  show wpAny _ _ (callAny (.ref 76) _) _ _ _
  repeat (any_goals (first | assumption | with_reducible refine wpAny_loadPart_at hC ?_ | wp_step))
  refine ⟨rfl, ?_⟩
  refine codeAny_call_builtin_at (Code.quiet_builtin _ (by decide +kernel)) entry_typeCall (wpAny_check_type_call_sub hC (tf_make X (fun h' e hm => ?_) hrest))
  exact hq h' e hm
end
/-- a name is laid into the dict of the exception -/
theorem tf_passes (self : Value) : refuseLoop self "__setattr__" (.ref 76 :: tfTail) = pure () := by
  rw [refuseLoop_ref, refuseLoop_ref]
  unfold refuseLoop
  kernel_rfl
noncomputable abbrev exDict (es : List DictEntry) (n : Nat) : Obj := { cls := .type "dict", data := .dict es.toArray n }
theorem put_what (hw : Int) (k v : Value) : Obj.putName "what" hw k v emptyDict = exDict [⟨hw, k, v⟩] 1 := by rfl
theorem put_spot (hw hs : Int) (tw : Tok) (k v u : Value) : Obj.putName "spot" hs k v (exDict [⟨hw, .str "what" tw, u⟩] 1) = exDict [⟨hw, .str "what" tw, u⟩, ⟨hs, k, v⟩] 2 := by rfl
section
variable {prog : Program} {w : World} {A : Around} {E : Value → Shared → Prop} {R : Result → Shared → Prop} {s : Shared} {h₀ : Heap} {L x dx : Addr} {m : Str → Option Value} {ox od : Obj} {post : List (Addr × Obj)}
theorem tf_osa {odx : Option Obj} {name : Str} {tk : Tok} {v : Value} (X : (Mine.hd.heap_39 w.params).In s.heap) (I : InstAt s.heap x ox 76 odx) (ht : findIn (Mine.hd.heap_39 w.params) (.ref 76) name = some none)
    (h : wpAny (model prog w) A.in1 (storeInOwnDict (.ref x) (.ref 76) (.str name tk) name v false)
      (fun fin s' => match fin with | .done f => R (.ok f) s' | .again c' => c'.quiet = true ∧ codeAny (model prog w) A c' R s') (fun e s' => R (.error e) s') s) :
    codeAny (model prog w) A (.call (.builtin "object.__setattr__") ⟨[.ref x, .str name tk, v], []⟩) R s := by
  have SF := PySem.F.store_object
  obtain ⟨nm, q, N, bs, sn, sub, ab, col, dd, k0, k1, k2, k3, k5, hC⟩ := tf_obj X
  have hm : Looks (model prog w) s.heap (mroOf (.ref 76)) (.ref 76 :: tfTail) := fun A Q E s' k q' => by
    obtain ⟨h', g, d, t, os⟩ := s'
    exact wpAny_mroOf_exc (k _ _ hC) q'
  have sub' : Looks (model prog w) s.heap (isInstance (.ref x) (.type "object")) true := I.type.andThen (fun A Q E s' k q' => by
    obtain ⟨h', g, d, t, os⟩ := s'
    exact wpAny_isSubtype_exc (k _ _ hC) q')
  refine codeAny_call_builtin SF.slot.plain SF.entry (@check_slot (model prog w) _ _ s "object.__setattr__" "object" "__setattr__" (.ref x) [.str name tk, v] [] _ SF.kind SF.split sub' (SF.args (.ref x) (.str name tk) v) ?_)
  rw [osa_eq, refuse_eq]
  refine wpAny_bind (wpAny_bind (I.type.here (wpAny_bind (hm.here ?_))))
  rw [tf_passes]
  refine wpAny_pure (wpAny_bind (I.type.here (wpAny_bind ((looks_findIn X ht).here (wpAny_bind (Looks.now.here ?_))))))
  exact h
theorem nf_dict {o : Obj} {es : Array DictEntry} {n : Nat} (e : o.data = .dict es n) : o.isFreed = false := by
  obtain ⟨_, _, d, _⟩ := o
  cases e
  rfl
theorem tf_set_first {v : Value} {name : Str} {Q : Unit → Shared → Prop} (F : Fr h₀ L s.heap m) (N : News h₀ L s.heap ((x, ox) :: post)) (X : (Mine.hd.heap_39 w.params).In s.heap)
    (hc : ox.cls = .ref 76) (hd : ox.dict = none) (hf : ∃ vs, ox.data = .fields vs) (h2 : ∀ p ∈ post, p.1 ≠ x) (ht : findIn (Mine.hd.heap_39 w.params) (.ref 76) name = some none)
    (h : ∀ h' dx tk hw tw, Fr h₀ L h' m → News h₀ L h' ((x, { ox with dict := some dx }) :: (dx, Obj.putName name hw (.str name tw) v emptyDict) :: post) → (∀ p ∈ post, p.1 ≠ dx) → dx ≠ x → Q () { s with heap := h', toks := tk })
    (hl : ∀ (hw : Int) (tw : Tok), ∃ es n, (Obj.putName name hw (.str name tw) v emptyDict).data = .dict es n ∧ es.size ≤ 10) :
    wpAny (model prog w) A (setAttr (.ref x) name v) Q E s := by
  obtain ⟨vs, hf⟩ := hf
  obtain ⟨hh, g, d, t, os⟩ := s
  have hx := (N _ (.head _)).1
  have I : InstAt hh x ox 76 none := ⟨hx, hc, by unfold notCls; rw [hf], by rw [hd]; trivial⟩
  have N₁ := (N.push F emptyDict)
  have F₁ := F.push (o := emptyDict)
  have ne : hh.objs.size ≠ x := Nat.ne_of_gt (Heap.lt_size hx)
  have ndp : ∀ p ∈ post, p.1 ≠ hh.objs.size := fun p hp => Nat.ne_of_lt (Heap.lt_size (N p (.tail _ hp)).1)
  obtain ⟨F₂, N₂⟩ := news_upd (pre := [(hh.objs.size, emptyDict)]) (f := fun o => { o with dict := some hh.objs.size }) (o' := { ox with dict := some hh.objs.size }) F₁ N₁ (fun p hp => by simp only [List.mem_singleton] at hp; subst hp; exact ne) h2 rfl (by unfold Obj.isFreed; rw [hf])
  have N₃ : News h₀ L _ ([(x, { ox with dict := some hh.objs.size })] ++ (hh.objs.size, emptyDict) :: post) := fun p hp => N₂ p (by
    simp only [List.cons_append, List.nil_append, List.mem_cons] at hp ⊢
    rcases hp with h | h | h
    · exact .inr (.inl h)
    · exact .inl h
    · exact .inr (.inr h))
  refine set_plain X I (by kernel_rfl) (tf_osa (s := ⟨hh, g, d, t + 1, os⟩) X I ht ?_)
  have SE : storeInOwnDict (.ref x) (.ref 76) (.str name t) name v false = (instanceDict x true >>= fun r => match r with | some d => storeInDict d (.str name t) name v | none => noDictFor (.ref x) (.ref 76) name false) := rfl
  rw [SE]
  obtain ⟨nm, q, N', bs, sn, sub, ab, col, dd, k0, k1, k2, k3, k5, hC⟩ := tf_obj X
  unfold instanceDict
  refine wpAny_bind (wpAny_bind (wpAny_loadPart hx ?_))
  rw [hc]
  dsimp only
  unfold classData
  refine wpAny_bind (wpAny_bind (wpAny_load hC (wpAny_pure ?_)))
  rw [hd, if_neg (by simp)]
  dsimp only
  rw [if_neg (by decide)]
  rw [hf]
  dsimp only
  refine wpAny_bind (wpAny_alloc' ?_)
  refine wpAny_bind (wpAny_update' (Heap.get?_push_of_some _ hx) ?_)
  refine wpAny_pure (a := some hh.objs.size) ?_
  show wpAny _ _ (storeInDict hh.objs.size (.str name t) name v) _ _ _
  unfold storeInDict newKeyGuard
  have hU := fun p hp => (N₃ p hp).1
  have gD := hU (hh.objs.size, emptyDict) (by simp)
  refine wpAny_bind (wpAny_pure (wpAny_bind ?_))
  unfold nsSet
  refine wpAny_bind (wpAny_bind (wpAny_askSetting (wpAny_pure (wpAny_bind (wpAny_mkText (wpAny_bind (wpAny_loadPart gD ?_)))))))
  dsimp only
  rw [aRefKeyMayBeTheName_at]
  rw [if_neg (by simp)]
  obtain ⟨es, n, hes, hsz⟩ := hl (PyData.keyHash w.params name) (t + 1)
  obtain ⟨F₄, N₄⟩ := news_upd (f := Obj.putName name (PyData.keyHash w.params name) (.str name (t + 1)) v) F₂ N₃ (fun p hp => by simp only [List.mem_singleton] at hp; subst hp; exact ne.symm) ndp rfl (nf_dict hes)
  refine wpAny_updatePart gD ?_
  have D' := (N₄ (hh.objs.size, Obj.putName name (PyData.keyHash w.params name) (.str name (t + 1)) v emptyDict) (by simp)).1
  refine wpAny_bind (wpAny_lookBehind D' (by rw [hes]; exact pastItsLine_dict (by rw [sizeLine_eq]; omega)) ?_)
  exact wpAny_pure (h _ _ _ _ _ F₄ N₄ ndp ne)
end
section
variable {prog : Program} {w : World} {A : Around} {E : Value → Shared → Prop} {R : Result → Shared → Prop} {s : Shared} {h₀ : Heap} {L x dx : Addr} {m : Str → Option Value} {ox od : Obj} {post pre : List (Addr × Obj)}
theorem tf_set_next {v : Value} {name : Str} {Q : Unit → Shared → Prop} (F : Fr h₀ L s.heap m) (N : News h₀ L s.heap (pre ++ (dx, od) :: post)) (X : (Mine.hd.heap_39 w.params).In s.heap)
    (hx : s.heap.get? x = some ox) (hc : ox.cls = .ref 76) (hd : ox.dict = some dx) (hf : ∃ vs, ox.data = .fields vs) (h1 : ∀ p ∈ pre, p.1 ≠ dx) (h2 : ∀ p ∈ post, p.1 ≠ dx) (ht : findIn (Mine.hd.heap_39 w.params) (.ref 76) name = some none)
    {es : List DictEntry} {n : Nat} (hod : od.data = .dict es.toArray n) (hk : (!es.any (·.key.isStr name) && es.any (·.refKey)) = false)
    (h : ∀ h' tk hw tw, Fr h₀ L h' m → News h₀ L h' (pre ++ (dx, Obj.putName name hw (.str name tw) v od) :: post) → Q () { s with heap := h', toks := tk })
    (hl : ∀ (hw : Int) (tw : Tok), ∃ es n, (Obj.putName name hw (.str name tw) v od).data = .dict es n ∧ es.size ≤ 10) :
    wpAny (model prog w) A (setAttr (.ref x) name v) Q E s := by
  obtain ⟨vs, hf⟩ := hf
  obtain ⟨hh, g, d, t, os⟩ := s
  have gD := (N (dx, od) (by simp)).1
  have I : InstAt hh x ox 76 (some od) := ⟨hx, hc, by unfold notCls; rw [hf], by rw [hd]; exact gD⟩
  refine set_plain X I (by kernel_rfl) (tf_osa (s := ⟨hh, g, d, t + 1, os⟩) X I ht ?_)
  have SE : storeInOwnDict (.ref x) (.ref 76) (.str name t) name v false = (instanceDict x true >>= fun r => match r with | some d => storeInDict d (.str name t) name v | none => noDictFor (.ref x) (.ref 76) name false) := rfl
  rw [SE]
  obtain ⟨nm, q, N', bs, sn, sub, ab, col, dd, k0, k1, k2, k3, k5, hC⟩ := tf_obj X
  unfold instanceDict
  refine wpAny_bind (wpAny_bind (wpAny_loadPart hx ?_))
  rw [hc]
  dsimp only
  unfold classData
  refine wpAny_bind (wpAny_bind (wpAny_load hC (wpAny_pure ?_)))
  rw [hd, if_neg (by simp)]
  refine wpAny_pure (a := some dx) ?_
  show wpAny _ _ (storeInDict dx (.str name t) name v) _ _ _
  unfold storeInDict newKeyGuard
  refine wpAny_bind (wpAny_pure (wpAny_bind ?_))
  unfold nsSet
  refine wpAny_bind (wpAny_bind (wpAny_askSetting (wpAny_pure (wpAny_bind (wpAny_mkText (wpAny_bind (wpAny_loadPart gD ?_)))))))
  rw [hod]
  dsimp only
  rw [aRefKeyMayBeTheName_at, ← Array.any_toList, ← Array.any_toList]
  rw [if_neg (by simp only [hk]; decide)]
  obtain ⟨es, n, hes, hsz⟩ := hl (PyData.keyHash w.params name) (t + 1)
  obtain ⟨F₄, N₄⟩ := news_upd (f := Obj.putName name (PyData.keyHash w.params name) (.str name (t + 1)) v) F N h1 h2 rfl (nf_dict hes)
  refine wpAny_updatePart gD ?_
  have D' := (N₄ (dx, Obj.putName name (PyData.keyHash w.params name) (.str name (t + 1)) v od) (by simp)).1
  refine wpAny_bind (wpAny_lookBehind D' (by rw [hes]; exact pastItsLine_dict (by rw [sizeLine_eq]; omega)) ?_)
  exact wpAny_pure (h _ _ _ _ F₄ N₄)
end
theorem tf_wd_get : Slot "wrapper_descriptor" "__get__" "wrapper_descriptor.__get__" := .of (owner := "wrapper_descriptor") (n := "__get__") (by rw [typeLookup_type, builtinLookup_eq_fast]; kernel_rfl) (by decide +kernel) (by decide +kernel) (by decide +kernel)
  (by first | exact .inl (by decide +kernel) | exact .inr (by decide +kernel)) (by rw [isSubtype_type]; kernel_rfl)
theorem tf_entry_wd : entryFor table "wrapper_descriptor.__get__" = some Builtin.«wrapper_descriptor.__get__» := entryFor_of_tree (by kernel_rfl)
theorem tf_args_wd (a b c : Value) : argsOk "wrapper_descriptor.__get__" ⟨[a, b, c], []⟩ := by unfold argsOk; kernel_rfl
theorem tf_type_init : typeOf (.builtin "Exception.__init__") = pure (.type "wrapper_descriptor") := by kernel_rfl
section
variable {prog : Program} {w : World} {M : Model} {A : Around} {E : Value → Shared → Prop} {h : Heap} {g : Array GenState} {d : Drawn} {t : Nat} {os : OsState}
set_option maxHeartbeats 1000000 in
theorem tf_super_ga {so x : Addr} {ox : Obj} {tk : Tok} {Q : Fin → Shared → Prop} {l₀ l : List Value} (hM : Looks (model prog w) h (mroOf (.ref 76)) l₀) (hl : (l₀.dropWhile (· != .ref 47)).drop 1 = l) (hf : alongIn (Mine.hd.heap_39 w.params) "__init__" l = some (some (.builtin "Exception.__init__")))
    (hso : h.get? so = some (ks_superObj 47 x 76)) (X : (Mine.hd.heap_39 w.params).In h) (hx : h.get? x = some ox) (hxc : ox.cls = .ref 76) (hno : Looks (model prog w) h (opaqueClassAbove (.ref 76)) none) (hxC : x ≠ 76)
    (hq : Q (.done (.ret (.ref h.objs.size))) ⟨h.push { cls := .type "method-wrapper", data := .fields #[.builtin "Exception.__init__", .ref x] }, g, d, t, os⟩) :
    wpAny (model prog w) A (Builtin.«super.__getattribute__» ⟨[.ref so, .str "__init__" tk], []⟩) Q E ⟨h, g, d, t, os⟩ := by
  obtain ⟨nm, q, N', bs, sn, sub, ab, col, dd, k0, k1, k2, k3, k5, hC⟩ := tf_obj X
  have hlk := tf_wd_get.lookup
  have hne : (Value.ref x == Value.ref 76) = false := by simp [hxC]
  have hTf : (⟨h, g, d, t, os⟩ : Shared).TypeIs (.builtin "Exception.__init__") "wrapper_descriptor" := tf_type_init
  have hdt : ({ cls := .type "super", dict := none, data := .fields #[.ref 47, .ref x, .ref 76], slots := #[] } : Obj).data = .fields #[.ref 47, .ref x, .ref 76] := rfl
  have f0 : (#[.ref 47, .ref x, .ref 76] : Array Value)[0]? = some (.ref 47) := rfl
  have f1 : (#[.ref 47, .ref x, .ref 76] : Array Value)[1]? = some (.ref x) := rfl
  have f2 : (#[.ref 47, .ref x, .ref 76] : Array Value)[2]? = some (.ref 76) := rfl
  have hn : (("__init__" : Str) == ("__class__" : Str)) = false := by decide
  unfold Builtin.«super.__getattribute__»
  repeat (first
    | (with_reducible refine wpAny_field hso hdt f0 ?_) | (with_reducible refine wpAny_field hso hdt f1 ?_) | (with_reducible refine wpAny_field hso hdt f2 ?_)
    | (with_reducible refine ks_wpAny_notOpaque hno ?_)
    | (with_reducible refine Looks.at hM ?_; rw [hl])
    | (refine ks_forIn_along X (fun _ _ => rfl) rfl ?_ hf)
    | (with_reducible refine wpAny_typeOf hTf ?_)
    | (with_reducible refine wpAny_call_entry tf_wd_get hTf tf_entry_wd ?_ (tf_args_wd _ _ _))
    | (with_reducible refine ⟨_, rfl, ?_⟩)
    | (simp only [hn, hne, Bool.or_false, Bool.false_eq_true, if_false])
    | wp_step
    | dsimp only)
  all_goals (
    rw [hxc]
    have hc1 : (Value.ref 76 :: tfTail).contains (.type (".".intercalate ("Exception.__init__".cutAt '.').dropLast)) = true := by decide +kernel
    refine wpAny_isSubtype_exc hC ?_
    rw [hc1]
    rw [if_neg (by decide)]
    refine wpAny_pure (wpAny_bind ?_)
    unfold newFields
    refine wpAny_newObj_type ?_ (by size_fits)
    refine wpAny_pure ⟨_, rfl, ?_⟩
    repeat wp_step
    exact hq)
theorem tf_getMethod {so x : Addr} {ox : Obj} {pl : Sem Bool} {Q : Value × List Value → Shared → Prop} {l₀ l : List Value} (hM : Looks (model prog w) h (mroOf (.ref 76)) l₀) (hl : (l₀.dropWhile (· != .ref 47)).drop 1 = l) (hf : alongIn (Mine.hd.heap_39 w.params) "__init__" l = some (some (.builtin "Exception.__init__")))
    (hso : h.get? so = some (ks_superObj 47 x 76)) (X : (Mine.hd.heap_39 w.params).In h) (hx : h.get? x = some ox) (hxc : ox.cls = .ref 76) (hno : Looks (model prog w) h (opaqueClassAbove (.ref 76)) none) (hxC : x ≠ 76)
    (hq : Q (.ref h.objs.size, []) ⟨h.push { cls := .type "method-wrapper", data := .fields #[.builtin "Exception.__init__", .ref x] }, g, d, t + 1, os⟩) :
    wpAny (model prog w) A (getMethod (.ref so) "__init__" pl) Q E ⟨h, g, d, t, os⟩ := by
  have hlk := F.ks_slot_super_ga.lookup
  have hcan := F.ks_canon_super_ga
  have hT : ∀ t', (⟨h, g, d, t', os⟩ : Shared).TypeIs (.ref so) "super" := fun _ => ⟨_, hso, rfl⟩
  unfold getMethod
  refine wpAny_bind (wpAny_specialOf (hT _) hlk ?_)
  show wpAny _ _ (if (Manifest.canonical "super.__getattribute__" != "object.__getattribute__") = true then _ else _) _ _ _
  rw [if_pos hcan]
  unfold getAttr getAttrBy
  refine wpAny_bind (wpAny_bind (wpAny_mkText (wpAny_holding (wpAny_bind (wpAny_typeOf (hT _) (wpAny_bind (wpAny_of_eq hlk ?_)))))))
  show wpAny _ _ (getAttrByItsOwn (.ref so) (.str "__init__" t) (.type "super") (.builtin "super.__getattribute__") true false) _ _ _
  unfold getAttrByItsOwn hookBefore callGetattribute boundAndCalled
  refine wpAny_bind (wpAny_of_eq (show (if onTheHeap (.type "super") then typeLookup (.type "super") "__getattr__" else pure none) = pure none from rfl) ?_)
  refine wpAny_bind (wpAny_attempt (wpAny_holding ?_))
  show wpAny _ _ (bindSpecial (.builtin "super.__getattribute__") (.ref so) >>= _) _ _ _
  refine wpAny_bind (wpAny_of_eq (F.ks_slot_super_ga.bind _) ?_)
  refine wpAny_mono (Q := fun v s' => v = .ref h.objs.size ∧ s' = ⟨h.push { cls := .type "method-wrapper", data := .fields #[.builtin "Exception.__init__", .ref x] }, g, d, t + 1, os⟩) (E := fun _ _ => False)
    (wpAny_call_entry F.ks_slot_super_ga (hT _) F.ks_entry_super_ga (tf_super_ga hM hl hf hso X hx hxc hno hxC ⟨_, rfl, rfl, rfl⟩) (F.ks_gaArgs_super _ _)) (fun v s' hv => ?_) fun _ _ z => z.elim
  obtain ⟨rfl, rfl⟩ := hv
  exact wpAny_pure (wpAny_pure hq)
theorem tf_check_init {x : Addr} {ox : Obj} {b : Value} (X : (Mine.hd.heap_39 w.params).In h) (hx : h.get? x = some ox) (hxc : ox.cls = .ref 76) {Q : Unit → Shared → Prop} (hq : Q () ⟨h, g, d, t, os⟩) : wpAny M A (checkBoundCall "Exception.__init__" ⟨[.ref x, b], []⟩) Q E ⟨h, g, d, t, os⟩ := by
  have F := PySem.F.excBase_Exception
  simp only [checkBoundCall, F.initKind, F.initRow]
  rw [if_pos (by decide)]
  have hshort := F.noStar
  obtain ⟨nm, q, N', bs, sn, sub, ab, col, dd, k0, k1, k2, k3, k5, hC⟩ := tf_obj X
  repeat (first | (with_reducible refine wpAny_loadPart_at hx ?_; rw [hxc]) | with_reducible refine wpAny_loadPart_at hC ?_ | wp_step)
  exact hq
theorem tf_call_wrapper {mw x a0 : Addr} {ox : Obj} {v : Value} {fs : Array Value} {Q : Value → Shared → Prop}
    (X : (Mine.hd.heap_39 w.params).In h) (hmw : h.get? mw = some { cls := .type "method-wrapper", data := .fields #[.builtin "Exception.__init__", .ref x] }) (hx : h.get? x = some ox) (hxc : ox.cls = .ref 76) (hxd : ox.data = .fields fs) (h0 : fs[0]? = some (.ref a0))
    (hq : Q .none ⟨(h.push { cls := .type "tuple", data := .seq #[v] }).update x (Obj.mapFields (·.setIfInBounds 0 (.ref h.objs.size))), g, d, t, os⟩) :
    wpAny (model prog w) A (call (.ref mw) [v]) Q E ⟨h, g, d, t, os⟩ := by
  have F := PySem.F.excBase_Exception
  refine wpAny_call (codeAny_of_tree ?_)
  show wpAny _ A.in1 (callAny (.ref mw) _) _ _ _
  unfold callAny
  refine wpAny_bind (wpAny_load hmw ?_)
  dsimp only
  refine wpAny_bind (tf_check_init X hx hxc ?_)
  show wpAny _ _ (again (Code.builtin "Exception.__init__" ⟨[.ref x, v], []⟩)) _ _ _
  refine wpAny_pure ⟨plainId_quiet F.init.plain _, codeAny_builtin F.initEntry ?_⟩
  unfold Builtin.«BaseException.__init__»
  dsimp only
  rw [if_neg (by simp)]
  have hx₁ := Heap.get?_push_of_some (h := h) { cls := .type "tuple", data := .seq #[v] } hx
  repeat (first | with_reducible refine wpAny_field hx₁ hxd h0 ?_ | with_reducible refine wpAny_setField hx₁ hxd (by obtain ⟨hh, _⟩ := Array.getElem?_eq_some_iff.mp h0; exact hh) ?_ | wp_step)
  exact hq
end
end
/- Fault -/
theorem freshFault : True := by
  w_top off
  trivial
section
open Builtin Builtin.ObjectAttr
noncomputable abbrev exObj (a0 : Addr) (dd : Option Addr) : Obj := { cls := .ref 76, dict := dd, data := .fields #[.ref a0, .none, .none, .none, .bool false, .none] }
noncomputable abbrev mwObj (x : Addr) : Obj := { cls := .type "method-wrapper", data := .fields #[.builtin "Exception.__init__", .ref x] }
section
variable {prog : Program} {w : World} {A : Around} {E : Value → Shared → Prop} {s : Shared} {h₀ : Heap} {L : Addr} {m : Str → Option Value} {news : List (Addr × Obj)} {so x mw a0 : Addr}
theorem tf_inst {h : Heap} (N : News h₀ L h news) (hm : (x, exObj a0 none) ∈ news) : InstAt h x (exObj a0 none) 76 none := ⟨(N _ hm).1, rfl, rfl, trivial⟩
theorem tf_ne (X : (Mine.hd.heap_39 w.params).In s.heap) {ox : Obj} {vs : Array Value} (hx : s.heap.get? x = some ox) (hd : ox.data = .fields vs) : x ≠ 76 := by
  obtain ⟨nm, q, N', bs, sn, sub, ab, col, dd, k0, k1, k2, k3, k5, hC⟩ := tf_obj X
  rintro rfl
  rw [hx] at hC
  cases hC
  cases hd
theorem tf_method {pl : Sem Bool} {Q : Value × List Value → Shared → Prop} (F : Fr h₀ L s.heap m) (X₀ : (Mine.hd.heap_39 w.params).In h₀) (N : News h₀ L s.heap news) (hso : (so, ks_superObj 47 x 76) ∈ news) (hx : (x, exObj a0 none) ∈ news)
    (h : ∀ q h', Fr h₀ L h' m → News h₀ L h' ((q, mwObj x) :: news) → (∀ p ∈ news, p.1 < q) → Q (.ref q, []) { s with heap := h', toks := s.toks + 1 }) : wpAny (model prog w) A (getMethod (.ref so) "__init__" pl) Q E s := by
  have X : (Mine.hd.heap_39 w.params).In s.heap := X₀.keeps F.keep
  obtain ⟨hh, g, d, t, os⟩ := s
  obtain ⟨nm, q, N', bs, sn, sub, ab, col, dd, k0, k1, k2, k3, k5, hC⟩ := tf_obj X
  have hM : Looks (model prog w) hh (mroOf (.ref 76)) (.ref 76 :: tfTail) := fun A Q E s' k q' => by
    obtain ⟨h', g, d, t, os⟩ := s'
    exact wpAny_mroOf_exc (k _ _ hC) q'
  have hx' := (N _ hx).1
  have ne := tf_ne (s := ⟨hh, g, d, t, os⟩) X hx' rfl
  refine tf_getMethod hM (l := [.type "Exception", .type "BaseException", .type "object"]) (by decide +kernel) (by kernel_rfl) (N _ hso).1 X hx' rfl (looks_opaque X (by kernel_rfl)) ne ?_
  obtain ⟨F', N', l'⟩ := ks_newsPush (s := ⟨hh, g, d, t, os⟩) (o := mwObj x) F N rfl (Heap.get?_push_at rfl rfl) (fun b o e => Heap.get?_push_of_some _ e)
  exact h _ _ F' N' l'
theorem tf_callWith {M : Model} {env : Env} {pos : Pos} {first : List Value} {e : PySem.Expr} {rest : List PySem.Expr} {Q : Value → Shared → Prop} (h : wpAny M A (spliced (backTo pos (starEach (e :: rest) env))) (fun vs s₁ => s₁.heap.get? mw = some (mwObj x) ∧ wpAny M A (call (.ref mw) (first ++ vs)) Q E s₁) E s)
    (he : starEach (e :: rest) env = (false, eval e env) :: starEach rest env := by rfl) (hplain : (backTo pos (starEach rest env)).any (·.1) = false := by rfl) :
    wpAny M A (callWith pos (.ref mw) first (backTo pos (starEach (e :: rest) env)) []) Q E s := by
  rw [he] at h ⊢
  refine callWith_of (P := fun h => h.get? mw = some (mwObj x)) (by show ((false || (backTo pos (starEach rest env)).any (·.1)) || false) = false; rw [hplain]; rfl) (fun h' hm => ?_) (evalArgs_plain h)
  refine ⟨.machine, .inr (.inl rfl), (Looks.ld (part := none) hm).andThen ?_⟩
  exact .now
theorem tf_wrap {v : Value} {Q : Value → Shared → Prop} (F : Fr h₀ L s.heap m) (X₀ : (Mine.hd.heap_39 w.params).In h₀) (N : News h₀ L s.heap news) (hmw : (mw, mwObj x) ∈ news) (hx : (x, exObj a0 none) ∈ news)
    (h : ∀ a h', Fr h₀ L h' m → News h₀ L h' [(x, exObj a none)] → Q .none { s with heap := h' }) : wpAny (model prog w) A (call (.ref mw) [v]) Q E s := by
  have X : (Mine.hd.heap_39 w.params).In s.heap := X₀.keeps F.keep
  obtain ⟨hh, g, d, t, os⟩ := s
  have hx' := (N _ hx).1
  refine tf_call_wrapper X (N _ hmw).1 hx' rfl rfl rfl ?_
  have F₁ := F.push (o := { cls := .type "tuple", data := .seq #[v] })
  have N₁ : News h₀ L (hh.push { cls := .type "tuple", data := .seq #[v] }) [(x, exObj a0 none)] := fun p hp => by
    simp only [List.mem_cons, List.not_mem_nil, or_false] at hp
    subst hp
    exact ⟨Heap.get?_push_of_some _ (N _ hx).1, (N _ hx).2⟩
  obtain ⟨F₂, N₂⟩ := news_upd (pre := []) (post := []) (f := Obj.mapFields (·.setIfInBounds 0 (.ref hh.objs.size))) (o' := exObj hh.objs.size none) F₁ N₁ (by simp) (by simp) rfl rfl
  exact h _ _ F₂ N₂
end
local macro_rules | `(tactic| walk_at "getMethod ref") => `(tactic| (k_here; k_dflt (refine' tf_method ?k1 ?k2 ?k3 ?k4 ?k5 ?_; (case k1 => k_asm); (case k2 => k_asm); (case k3 => k_asm); (case k4 => k_mem); (case k5 => k_mem); intro q' h' F' N' l1; (try k_lt l1))))
local macro_rules | `(tactic| walk_at "getMethod ref") => `(tactic| (k_here; k_dflt (refine' ks_method ?k1 ?k2 ?k3 ?k4 ?k5 ?k6 ?k7 ?k8 ?k9 ?_; (case k1 => k_asm); (case k2 => k_asm); (case k3 => k_asm); (case k4 => k_mem); (case k5 => exact tf_inst (by k_asm) (by k_mem)); (case k6 => k_is); (case k7 => ks_is); (case k8 => k_is); (case k9 => decide); intro q' h' F' N' l1; (try k_lt l1))))
local macro_rules | `(tactic| walk_at "call ref") => `(tactic| (k_here; k_dflt (refine' tf_wrap ?k1 ?k2 ?k3 ?k4 ?k5 ?_; (case k1 => k_asm); (case k2 => k_asm); (case k3 => k_asm); (case k4 => k_mem); (case k5 => k_mem); intro a' h' F' N')))
local macro_rules | `(tactic| walk_at "wpAt") => `(tactic| (ks_step "attributeBase Call"; k_here; k_dflt (refine ks_node (by k_asm) (by k_asm) (by k_asm) (by k_asm) (by k_is) (by rfl) (by rfl) (tf_inst (by k_asm) (by k_mem)) (by k_is) (by rfl) (by first | rfl | decide +kernel) (by k_is) (by k_is) (by k_is) (by k_is) (by decide) (by rfl) (by rfl) (by rfl) (by rfl) (by decide +kernel) (by first | boot_by_name | rfl | kernel_rfl) ?_; intro so' h' F' N' l1; (try k_lt l1))))
theorem news_to {h₀ g h : Heap} {L L' : Addr} {news : List (Addr × Obj)} (N : News g L' h news) (k : ∀ p ∈ news, p.1 ≠ L ∧ h₀.get? p.1 = none) : News h₀ L h news := fun p hp => ⟨(N p hp).1, k p hp⟩
section
variable {w : World} {A₀ A : Around} {s : Shared} {base h₀ : Heap} {outer : List Env} {L a : Addr} {m : Str → Option Value} {news : List (Addr × Obj)} {mean : ExcName → Option Value} {mg mb : Str → Option Value}
  {cn : Str} {cs : Scope} {ccd : Value} {cl : List (Str × Addr)}
  {R : Result → Shared → Prop} {name qual : Str} {params : Arguments} {body body₀ : List Stmt} {scope scope₀ : Scope} {dV kV doc pm cdv ct oc : Value} {an od : Option Addr} {osl : Array (Option Value)} {f cc : Addr} {args : Args} {binds : List (Str × Value)}
/-- entering a def that closes over its class -/
theorem enterS (C : Cx w s.heap A₀ base h₀ cs outer L m mean mg mb) (N : News h₀ L s.heap news) (hA : A.frames = some (envX cn cs L a ccd cl :: outer))
    (ho : (Mine.hd.heap_39 w.params).lookup f = some ⟨oc, od, .func (ksFn name qual params body₀ scope₀ dV kV doc pm an cdv ct cc), osl⟩) (hcd : codeIn (Mine.hd.heap_39 w.params) cdv qual = true) (hroom : A.depth < recursionLimit)
    (hbind : BindsTo s (ksFn name qual params body scope dV kV doc pm an cdv ct cc) args binds) (hloc : ∀ y ∈ binds, scope.names.lookup y.1 = some .local)
    (h : ∀ g L' h₁, (∀ b o, b ∉ news.map (·.1) → s.heap.get? b = some o → g.get? b = some o) → (∀ b o, g.get? b = some o → s.heap.get? b = some o) → Fr g L' h₁ (bmap binds.reverse) → News g L' h₁ news → Below A base (envX cn cs L a ccd cl :: outer) g → (Mine.hd.heap_39 w.params).In g → Top Mine.hd.view_39 (looseW Mine.hd.view_39 []) mean mg mb g → (∀ p ∈ news, p.1 < L') →
      _root_.PySem.wpAt (model Challenge.rw_rg0116_01.row.prog w) (A.deeper (ksEnv qual scope L' f cdv cc)) (.func body (ksEnv qual scope L' f cdv cc)) (execs body (ksEnv qual scope L' f cdv cc))
        (fun fl s' => R (.ok (.ret (match fl with | .ret v => v | _ => .none))) s')
        (fun e s' => wpAny (model Challenge.rw_rg0116_01.row.prog w) (A.deeper (ksEnv qual scope L' f cdv cc)) (leaving (ksEnv qual scope L' f cdv cc) e) (fun _ s'' => R (.error e) s'') (fun e' s'' => R (.error e') s'') s')
        { s with heap := h₁, toks := s.toks + binds.length })
    (hco : scope.isCoroutine = false) (hgen : scope.isGenerator = false) (hk : scope.kind = .function)
    (hcell : ∀ x ∈ scope.names, x.2 ≠ .cell) (eb : body₀ = body) (es : scope₀ = scope) : codeAny (model Challenge.rw_rg0116_01.row.prog w) A (.call (.ref f) args) R s := by
  obtain rfl := eb.symm
  obtain rfl := es.symm
  obtain ⟨FG, BG, st, lv⟩ := groundX (R := R) C.B C.F N hA rfl C.hk
  refine ks_codeAny_call_defAt (fd := ksFn name qual params body scope dV kV doc pm an cdv ct cc) (body := body) (binds := binds) hroom ((C.X.keeps C.F.keep) _ _ ho) rfl (C.T.nolimit.keeps C.F.keep) (codeRec_of (C.X.keeps C.F.keep) hcd) rfl hbind hcell hloc (fun h₁ hns hk₁ => ?_) hco hgen hk
  exact h _ s.heap.objs.size h₁ (fun b o nb e => hideAll_get _ e nb) (fun b o e => of_hideAll _ e) ⟨by rw [bmap_lookup]; exact hns, fun b o e => hk₁ b o (of_hideAll _ e), Nat.le_of_eq (hideAll_size _ _)⟩
    (fun p hp => ⟨hk₁ _ _ (N p hp).1, Nat.ne_of_lt (Heap.lt_size (N p hp).1), hideAll_none _ (List.mem_map_of_mem hp)⟩) BG (C.X.keeps st) (C.T.keeps st) (fun p hp => Heap.lt_size (N p hp).1)
end
section
variable {w : World} {A₀ : Around} {s : Shared} {base h₀ : Heap} {outer : List Env} {L a : Addr} {m : Str → Option Value} {mean : ExcName → Option Value} {mg mb : Str → Option Value}
  {dp un : Nat} {gd : Option (List Code)} {cn : Str} {cs : Scope} {ccd : Value} {cl : List (Str × Addr)}
  {Q : Value → Shared → Prop} {E : Value → Shared → Prop}
set_option maxHeartbeats 8000000 in
theorem fault_ok (x : PySem.Str) (tx : Tok) (i : Int) (ti : Tok) (C : Cx w s.heap A₀ base h₀ cs outer L m mean mg mb) (hd : dp + 10 < recursionLimit) (hu : un + 40 < cLine)
    (hQ : ∀ e dx h' tk' hw tw hs ts a0, Kp [] s.heap h' → Fr h₀ L h' m → News h₀ L h' [(e, { cls := .ref 76, dict := some dx, data := .fields #[.ref a0, .none, .none, .none, .bool false, .none] }), (dx, exDict [⟨hw, .str "what" tw, .str x tx⟩, ⟨hs, .str "spot" ts, .int i ti⟩] 2)] → s.heap.get? e = none → s.heap.get? dx = none → dx ≠ e →
      Q (.ref e) { s with heap := h', toks := tk' }) :
    wpAny (model Challenge.rw_rg0116_01.row.prog w) (ktrTop dp un gd cn cs L a ccd cl outer) (call (.ref 76) [.str x tx, .int i ti]) Q E s := by
  obtain ⟨hh, g, d, t, os⟩ := s
  refine tf_call (C.X.keeps C.F.keep) (fun hB e hm => ?_) (by size_fits)
  obtain ⟨kk, ne, t0, he, nt, ht⟩ := hm
  have hte : t0 ≠ e := fun q => by rw [q, he] at ht; cases ht
  have F₁ : Fr h₀ L hB m := kp_fr C.F (S := []) (fun b o _ e => kk b o e) (by simp) (by simp)
  have fresh : ∀ b, hh.get? b = none → h₀.get? b = none ∧ b ≠ L := fun b q => by
    constructor
    · cases z : h₀.get? b with
      | none => rfl
      | some o => have := C.F.keep _ _ z; rw [q] at this; cases this
    · rintro rfl
      obtain ⟨oL, _, _, hL, _⟩ := C.F.ns
      dsimp only at hL
      rw [q] at hL
      cases hL
  have N₁ : News h₀ L hB [(e, { cls := .ref 76, data := .fields #[.ref t0, .none, .none, .none, .bool false, .none] }), (t0, { cls := .type "tuple", data := .seq #[.str x tx, .int i ti] })] := fun p hp => by
    simp only [List.mem_cons, List.not_mem_nil, or_false] at hp
    rcases hp with rfl | rfl
    · exact ⟨he, (fresh _ ne).2, (fresh _ ne).1⟩
    · exact ⟨ht, (fresh _ nt).2, (fresh _ nt).1⟩
  have C' : Cx w (Shared.mk hB g d t os).heap A₀ base h₀ cs outer L m mean mg mb := ⟨C.B, F₁, C.X, C.T, C.hk⟩
  refine wpAny_call ?_
  with_unfolding_all refine' enterS (s := ⟨hB, g, d, t, os⟩) (binds := [("self", .ref e), ("what", .str x tx), ("spot", .int i ti)]) ?kC ?kN ?kA ?k6 ?k7 ?k8 ?k9 ?kB ?_ ?c2 ?c3 ?c4 ?c5 ?eb ?es
  k_dflt ( (case kC => assumption); (case kN => assumption); (case kA => exact rfl); (case k6 => exact rfl); (case eb => (conv => lhs; whnf)); (case es => (conv => lhs; whnf)); (case k7 => kernel_rfl); (case k8 => first | omega | (simp only [depth_under_make]; omega) | k_room); (case k9 => exact BindsTo.of_eq rfl); (case kB => exact locs rfl); (case c2 => exact rfl); (case c3 => exact rfl); (case c4 => exact rfl); (case c5 => decide))
  intro gA LA hA hgA hsA FA NA BA XA TA lA
  dsimp only [List.reverse, List.reverseAux, bmap, List.length] at FA ⊢
  try k_fold
  (repeat' (first | (k_unfold; (try dsimp only)) | ((fail_if_success (with_reducible first | refine stop_at [] (by decide) ?_ | refine stop_st (by decide) ?_ | refine stop_bl (by decide) ?_ | refine stop_lc ?_ | refine stop_jp ?_ | show LCg.CompSrc _ _ _ _ _ _ _ _ _ _ _ _ _ _ | show LCt.CompSrcT _ _ _ _ _ _ _ _ _ _ _ _ _ _ _)); (first | walk1 | (dsimp only; first | walk1 | (k_unfold; (try dsimp only)))))))
  refine' call_meth ?k1 ?k2 ?_; (case k1 => k_asm); (case k2 => k_mem)
  refine' ks_code_super (binds := [(("self" : PySem.Str), .ref e), ("what", .str x tx)]) ?k1 ?k2 ?k3 ?k4 ?k5 ?kA ?kF ?kK ?k6 ?k7 ?k8 ?k9 ?kB ?_ ?c1 ?c2 ?c3 ?c4; (case kA => exact rfl); (case kF => exact rfl); (case kK => exact rfl); (case k1 => k_asm); (case k2 => k_asm); (case k3 => k_asm); (case k4 => k_asm); (case k5 => k_asm); (case k6 => k_is); (case k7 => k_is); (case k8 => (simp only [depth_under_make, depth_deeper]; omega)); (case k9 => exact BindsTo.of_eq rfl); (case kB => exact locs rfl); (case c1 => decide); (case c2 => exact rfl); (case c3 => exact rfl); (case c4 => exact rfl); intro g' L' h' FG' F' N' B' X' T' l1; dsimp only [B37, xB37, S37, xS37]; (try k_lt l1); (try dsimp only); (try k_lift B')
  (repeat' (first | (k_unfold; (try dsimp only)) | ((fail_if_success (with_reducible first | refine stop_at [] (by decide) ?_ | refine stop_st (by decide) ?_ | refine stop_bl (by decide) ?_ | refine stop_lc ?_ | refine stop_jp ?_ | show LCg.CompSrc _ _ _ _ _ _ _ _ _ _ _ _ _ _ | show LCt.CompSrcT _ _ _ _ _ _ _ _ _ _ _ _ _ _ _)); (first | walk1 | (dsimp only; first | walk1 | (k_unfold; (try dsimp only)))))))
  dsimp only
  rename News _ _ _ ((_, mwObj _) :: _) => NM
  refine tf_callWith (x := e) ?_
  (repeat' (first | (k_unfold; (try dsimp only)) | ((fail_if_success (with_reducible first | refine stop_at [] (by decide) ?_ | refine stop_st (by decide) ?_ | refine stop_bl (by decide) ?_ | refine stop_lc ?_ | refine stop_jp ?_ | show LCg.CompSrc _ _ _ _ _ _ _ _ _ _ _ _ _ _ | show LCt.CompSrcT _ _ _ _ _ _ _ _ _ _ _ _ _ _ _)); (first | walk1 | (dsimp only; first | walk1 | (k_unfold; (try dsimp only)))))))
  · exact (NM _ (.head _)).1
  refine tf_set_first (by k_asm) (by k_asm) (by k_in) rfl rfl ⟨_, rfl⟩ (by simp) (by kernel_rfl) ?_ (fun hw tw => ⟨_, _, rfl, Nat.le_of_ble_eq_true rfl⟩)
  intro h' dx tk hw tw F'' N'' l2 l3
  rw [put_what] at N''
  (repeat' (first | (k_unfold; (try dsimp only)) | ((fail_if_success (with_reducible first | refine stop_at [] (by decide) ?_ | refine stop_st (by decide) ?_ | refine stop_bl (by decide) ?_ | refine stop_lc ?_ | refine stop_jp ?_ | show LCg.CompSrc _ _ _ _ _ _ _ _ _ _ _ _ _ _ | show LCt.CompSrcT _ _ _ _ _ _ _ _ _ _ _ _ _ _ _)); (first | walk1 | (dsimp only; first | walk1 | (k_unfold; (try dsimp only)))))))
  rename News _ _ _ [_, _] => NM2
  refine tf_set_next (pre := [_]) (post := []) (es := [⟨hw, .str "what" tw, .str x tx⟩]) (n := 1) (by k_asm) NM2 (by k_in) (NM2 _ (.head _)).1 rfl rfl ⟨_, rfl⟩ (by simpa using fun q => l3 q.symm) (by simp) (by kernel_rfl) rfl (by rfl) ?_ (fun hs ts => ⟨_, _, rfl, Nat.le_of_ble_eq_true rfl⟩)
  intro h3 tk3 hs3 ts3 F3 N3
  rw [put_spot] at N3
  (repeat' (first | (k_unfold; (try dsimp only)) | ((fail_if_success (with_reducible first | refine stop_at [] (by decide) ?_ | refine stop_st (by decide) ?_ | refine stop_bl (by decide) ?_ | refine stop_lc ?_ | refine stop_jp ?_ | show LCg.CompSrc _ _ _ _ _ _ _ _ _ _ _ _ _ _ | show LCt.CompSrcT _ _ _ _ _ _ _ _ _ _ _ _ _ _ _)); (first | walk1 | (dsimp only; first | walk1 | (k_unfold; (try dsimp only)))))))
  have upA : ∀ b o, hh.get? b = some o → gA.get? b = some o := fun b o q => hgA b o (fun mm => by
    simp at mm
    rcases mm with z | z
    · rw [z, ne] at q; cases q
    · rw [z, nt] at q; cases q) (kk b o q)
  have up : Kp [] hh h3 := fun b o _ q => F3.keep b o (upA b o q)
  have nd : hh.get? dx = none := by
    cases z : hh.get? dx with
    | none => rfl
    | some o =>
      have := (N3 _ (.tail _ (.head _))).2.2
      rw [upA _ _ z] at this
      cases this
  refine hQ e dx h3 tk3 hw tw hs3 ts3 _ up (kp_fr C.F up (by simp) (by simp)) (news_to N3 (fun p hp => ?_)) ne nd l3
  simp only [List.singleton_append, List.mem_cons, List.not_mem_nil, or_false] at hp
  rcases hp with rfl | rfl
  · exact ⟨(fresh _ ne).2, (fresh _ ne).1⟩
  · exact ⟨(fresh _ nd).2, (fresh _ nd).1⟩
end
end
/- Flight -/
theorem freshFlight : True := by
  w_top off
  trivial
section
open Builtin Builtin.ObjectAttr
/-- the own exception with its dict, and what its traceback is -/
noncomputable abbrev exT (a0 dx : Addr) (tb : Value) : Obj := { cls := .ref 76, dict := some dx, data := .fields #[.ref a0, tb, .none, .none, .bool false, .none] }
/-- all but the objects xs stay; the frames fs stay up to their slots -/
structure Up (fs xs : List Addr) (h h' : Heap) : Prop where
  keep : ∀ b o, b ∉ xs → b ∉ fs → h.get? b = some o → h'.get? b = some o
  fram : ∀ b o, b ∉ xs → h.get? b = some o → ∃ sl, h'.get? b = some { o with slots := sl }
theorem Up.refl {fs xs : List Addr} {h : Heap} : Up fs xs h h := ⟨fun _ _ _ _ e => e, fun _ o _ e => ⟨o.slots, e⟩⟩
theorem Up.trans {fs xs : List Addr} {h h₁ h₂ : Heap} (x : Up fs xs h h₁) (y : Up fs xs h₁ h₂) : Up fs xs h h₂ :=
  ⟨fun b o n m e => y.keep b o n m (x.keep b o n m e), fun b o n e => by
    obtain ⟨s1, e1⟩ := x.fram b o n e
    obtain ⟨s2, e2⟩ := y.fram b _ n e1
    exact ⟨s2, e2⟩⟩
theorem Up.widen {fs fs' xs xs' : List Addr} {h h' : Heap} (x : Up fs xs h h') (k : ∀ a ∈ xs, a ∈ xs') (k' : ∀ a ∈ fs, a ∈ fs') : Up fs' xs' h h' :=
  ⟨fun b o n m e => x.keep b o (fun q => n (k b q)) (fun q => m (k' b q)) e, fun b o n e => x.fram b o (fun q => n (k b q)) e⟩
theorem Up.fun {fs xs : List Addr} {h h' base : Heap} {l : List Env} (x : Up fs xs h h') (hl : h.FunFrames base l) (k : ∀ a ∈ xs, ∀ o, h.get? a = some o → ∃ vs, o.data = .fields vs) : h'.FunFrames base l :=
  hl.of_keeps fun b o hb hn => by
    have nb : b ∉ xs := fun q => by obtain ⟨vs, e⟩ := k b q o hb; exact hn vs e
    obtain ⟨sl, e⟩ := x.fram b o nb hb
    exact ⟨_, e, rfl⟩
section
variable {M : Model} {A : Around} {E : Value → Shared → Prop} {s : Shared} {base : Heap} {env : Env} {outer : List Env} {L e a0 dx : Addr} {Q : Unit → Shared → Prop} {fs : List Addr}
noncomputable def Trc (T : Addr) (fl : Value) (h : Heap) : Prop := ∃ oT ts, h.get? T = some oT ∧ oT.data = .fields ts ∧ ts[3]? = some fl
theorem tf_entry {head tb : Value} {hadNext : Bool} (hfr : A.frames = some (env :: outer)) (hl : s.heap.FunFrames base (env :: outer)) (hf : env.frame = some L) (hfs : (env :: outer).filterMap (·.frame) = fs)
    (he : s.heap.get? e = some (exT a0 dx tb))
    (h : ∀ h' T, Up fs [e] s.heap h' → s.heap.get? T = none → T ≠ e → h'.get? e = some (exT a0 dx (.ref T)) → Trc T (rawInt L) h' → Q () { s with heap := h' }) :
    wpAny M A (do let a ← frameOf env; let pl ← entryPlaceOf L hadNext; let b ← EntryCells.newEntry head a .none (rawInt L) .none pl; setField (.ref e) 1 b) Q E s := by
  subst hfs
  have hene : e ∉ (env :: outer).filterMap (·.frame) := fun hm => by
    obtain ⟨_, o, ho, hnf⟩ := hl.mem hm
    rw [he] at ho
    cases ho
    exact hnf _ rfl
  refine wpAny_bind (wpAny_frameOf_fun hfr hl hf fun h₁ hs₁ => ?_)
  refine wpAny_bind (wpAny_entryPlaceOf fun pl hpl => ?_)
  unfold EntryCells.newEntry newFields
  refine wpAny_bind (wpAny_newObj_type ?_ (hpl.sizeOk5 _ _ _ _ _))
  have he₁ : h₁.get? e = some (exT a0 dx tb) := (hs₁.2.1 e hene).trans he
  have he₂ := Heap.get?_push_of_some (h := h₁) { cls := .type "traceback", dict := none, data := .fields ([head, .ref L, .none, rawInt L, .none] ++ (if pl.isEmpty then List.replicate 6 Value.none else pl)).toArray } he₁
  refine wpAny_setField he₂ rfl (by show 1 < 6; decide) ?_
  have hTe : h₁.objs.size ≠ e := Nat.ne_of_gt (Heap.lt_size he₁)
  have hTn : s.heap.get? h₁.objs.size = none := by rw [hs₁.1]; exact Heap.get?_none_of_le (Nat.le_refl _)
  refine h _ h₁.objs.size ⟨fun b o nb nf hb => ?_, fun b o nb hb => ?_⟩ hTn hTe ?_ ?_
  · have hb₁ := (hs₁.2.1 b nf).trans hb
    rw [Heap.get?_update_other _ _ (fun q => nb (by simp [q]))]
    exact Heap.get?_push_of_some _ hb₁
  · obtain ⟨sl, hb₁⟩ := hs₁.2.2 b o hb
    refine ⟨sl, ?_⟩
    rw [Heap.get?_update_other _ _ (fun q => nb (by simp [q]))]
    exact Heap.get?_push_of_some _ hb₁
  · exact Heap.get?_update_self (Obj.mapFields (·.setIfInBounds 1 (Value.ref h₁.objs.size))) he₂ rfl
  · refine ⟨_, _, (Heap.get?_update_other _ _ (Ne.symm hTe)).trans (Heap.get?_push_size h₁ rfl), rfl, ?_⟩
    simp
theorem tf_note_first (hfr : A.frames = some (env :: outer)) (hl : s.heap.FunFrames base (env :: outer)) (hf : env.frame = some L) (hfs : (env :: outer).filterMap (·.frame) = fs)
    (he : s.heap.get? e = some (exT a0 dx .none))
    (h : ∀ h' T, Up fs [e] s.heap h' → s.heap.get? T = none → T ≠ e → h'.get? e = some (exT a0 dx (.ref T)) → Trc T (rawInt L) h' → Q () { s with heap := h' }) :
    wpAny M A (noteFrame (.ref e) env) Q E s := by
  unfold noteFrame
  simp only [hf]
  refine wpAny_bind (wpAny_field he rfl (x := .none) rfl ?_)
  rw [if_neg (by decide)]
  exact tf_entry hfr hl hf hfs he h
theorem tf_note_next {T : Addr} (hfr : A.frames = some (env :: outer)) (hl : s.heap.FunFrames base (env :: outer)) (hf : env.frame = some L) (hfs : (env :: outer).filterMap (·.frame) = fs)
    (he : s.heap.get? e = some (exT a0 dx (.ref T))) (hT : Trc T .none s.heap) (hTe : T ≠ e)
    (h : ∀ h' T', Up fs [e, T] s.heap h' → s.heap.get? T' = none → T' ≠ e → h'.get? e = some (exT a0 dx (.ref T')) → Trc T' (rawInt L) h' → Q () { s with heap := h' }) :
    wpAny M A (noteFrame (.ref e) env) Q E s := by
  obtain ⟨oT, ts, hT, hdT, h3⟩ := hT
  unfold noteFrame
  simp only [hf]
  refine wpAny_bind (wpAny_field he rfl (x := .ref T) rfl ?_)
  rw [if_pos (show (Value.ref T != Value.none) = true from by simp)]
  refine wpAny_bind (wpAny_field hT hdT h3 ?_)
  rw [if_neg (show ¬ ((Value.none == rawInt L) = true) from by simp [rawInt])]
  refine wpAny_bind (wpAny_setField hT hdT (Array.getElem?_eq_some_iff.mp h3).1 ?_)
  have other : ∀ b, b ≠ T → (s.heap.update T (Obj.mapFields (·.setIfInBounds 3 Value.none))).get? b = s.heap.get? b := fun b hb => Heap.get?_update_other _ _ (Ne.symm hb)
  have u1 : Up fs [e, T] s.heap (s.heap.update T (Obj.mapFields (·.setIfInBounds 3 Value.none))) := ⟨fun b o nb _ hb => (other b (by simp at nb; exact nb.2)).trans hb, fun b o nb hb => ⟨o.slots, (other b (by simp at nb; exact nb.2)).trans hb⟩⟩
  have hl' := u1.fun (base := base) (l := env :: outer) hl (fun a ha o ho => by
    simp only [List.mem_cons, List.not_mem_nil, or_false] at ha
    rcases ha with rfl | rfl
    · rw [he] at ho; cases ho; exact ⟨_, rfl⟩
    · rw [hT] at ho; cases ho; exact ⟨_, hdT⟩)
  refine tf_entry hfr hl' hf hfs ((other e (Ne.symm hTe)).trans he) (fun h' T' u hn hne he' ht => ?_)
  refine h h' T' (u1.trans (u.widen (fun a ha => by simp only [List.mem_cons, List.not_mem_nil, or_false] at ha ⊢; exact .inl ha) (fun a ha => ha))) ?_ hne he' ht
  dsimp only at hn
  by_cases q : T' = T
  · subst q
    rw [Heap.get?_update_self _ hT (Obj.isFreed_of_fields (Obj.data_mapFields hdT _))] at hn
    cases hn
  · rw [other _ q] at hn; exact hn
theorem tf_set_flight {T : Addr} {fl : Value} (he : s.heap.get? e = some (exT a0 dx (.ref T))) (hT : Trc T fl s.heap) (hTe : T ≠ e)
    (h : ∀ h', Up fs [T] s.heap h' → h'.get? e = some (exT a0 dx (.ref T)) → Trc T .none h' → Q () { s with heap := h' }) :
    wpAny M A (setFlight (.ref e) none) Q E s := by
  obtain ⟨oT, ts, hT, hdT, h3⟩ := hT
  unfold setFlight
  refine wpAny_bind (wpAny_field he rfl (x := .ref T) rfl ?_)
  rw [if_pos (show (Value.ref T != Value.none) = true from by simp)]
  have hsz3 : 3 < ts.size := (Array.getElem?_eq_some_iff.mp h3).1
  have other : ∀ b, b ≠ T → (s.heap.update T (Obj.mapFields (·.setIfInBounds 3 ((none : Option Addr).elim Value.none fun f => rawInt f)))).get? b = s.heap.get? b := fun b hb => Heap.get?_update_other _ _ (Ne.symm hb)
  refine wpAny_setField hT hdT hsz3 (h _ ⟨fun b o nb _ hb => (other b (by simpa using nb)).trans hb, fun b o nb hb => ⟨o.slots, (other b (by simpa using nb)).trans hb⟩⟩ ((other e (Ne.symm hTe)).trans he) ?_)
  exact ⟨_, _, Heap.get?_update_self _ hT (Obj.isFreed_of_fields (Obj.data_mapFields hdT _)), Obj.data_mapFields hdT _, by simp [hsz3]⟩
theorem tf_leave_first (hfr : A.frames = some (env :: outer)) (hl : s.heap.FunFrames base (env :: outer)) (hf : env.frame = some L) (hfs : (env :: outer).filterMap (·.frame) = fs)
    (he : s.heap.get? e = some (exT a0 dx .none))
    (h : ∀ h' T, Up fs [e] s.heap h' → s.heap.get? T = none → T ≠ e → h'.get? e = some (exT a0 dx (.ref T)) → Trc T .none h' → Q () { s with heap := h' }) :
    wpAny M A (leaving env (.ref e)) Q E s := by
  unfold leaving
  refine wpAny_bind (tf_note_first hfr hl hf hfs he fun h₁ T u hn hne he₁ ht => ?_)
  refine tf_set_flight (fs := fs) he₁ ht hne fun h₂ u₂ he₂ ht₂ => ?_
  refine h h₂ T ⟨fun b o nb nf hb => ?_, fun b o nb hb => ?_⟩ hn hne he₂ ht₂
  · refine u₂.keep b o (fun q => ?_) nf (u.keep b o nb nf hb)
    simp only [List.mem_cons, List.not_mem_nil, or_false] at q
    rw [q, hn] at hb; cases hb
  · obtain ⟨s1, e1⟩ := u.fram b o nb hb
    obtain ⟨s2, e2⟩ := u₂.fram b _ (fun q => by
      simp only [List.mem_cons, List.not_mem_nil, or_false] at q
      rw [q, hn] at hb; cases hb) e1
    exact ⟨s2, e2⟩
end
end
/- Catch -/
theorem freshCatch : True := by
  w_top off
  trivial
section
open Builtin Builtin.ObjectAttr
section
variable {A₀ : Around} {base g hc h : Heap} {outer : List Env} {L : Addr} {m : Str → Option Value} {news : List (Addr × Obj)}
theorem reground (K : Below A₀ base outer g) (F : Fr g L hc m) (N : News g L hc news) (U : Up (L :: outer.filterMap (·.frame)) [] hc h) :
    ∃ g', KtsTurn (outer.filterMap (·.frame)) g g' ∧ Fr g' L h m ∧ News g' L h news ∧ Below A₀ base outer g' ∧ ∀ b, hc.get? b = none → g'.get? b = none := by
  have nL : ∀ b o, g.get? b = some o → b ≠ L := fun b o e q => by rw [q, kts_self F] at e; cases e
  obtain ⟨T, S⟩ := kts_turn_at (h := h) (fs := outer.filterMap (·.frame)) (g := g)
    (fun b hb => by
      obtain ⟨_, o, ho, _⟩ := K.frames.mem hb
      exact ⟨o, ho⟩)
    (fun b o e nm => U.keep b o (by simp) (by
      simp only [List.mem_cons, not_or]
      exact ⟨nL b o e, nm⟩) (F.keep b o e))
    (fun b o e _ => U.fram b o (by simp) (F.keep b o e))
  obtain ⟨oL, es, ep, hL, hLd, hLr⟩ := F.ns
  obtain ⟨slL, hL'⟩ := U.fram L oL (by simp) hL
  refine ⟨_, T, ⟨⟨_, es, ep, hL', hLd, hLr⟩, S, by rw [T.size]; exact F.above⟩, fun p hp => ⟨U.keep p.1 p.2 (by simp) ?_ (N p hp).1, (N p hp).2.1, T.none_ _ (N p hp).2.2⟩, ⟨K.stack, fun b o e => T.other b o (K.stays b o e) (fun hm => by
    rw [(K.frames.mem hm).1] at e
    cases e), K.frames.of_keeps fun b o e _ => ?_⟩, fun b hb => ?_⟩
  · simp only [List.mem_cons, not_or]
    refine ⟨(N p hp).2.1, fun hm => ?_⟩
    obtain ⟨_, o, ho, _⟩ := K.frames.mem hm
    rw [(N p hp).2.2] at ho
    cases ho
  · obtain ⟨sl, hs⟩ := T.up e
    exact ⟨_, hs, rfl⟩
  · refine T.none_ _ ?_
    cases q : g.get? b with
    | none => rfl
    | some o => have := F.keep b o q; rw [hb] at this; cases this
end
section
variable {w : World} {A₀ A : Around} {s' : Shared} {base g hc : Heap} {outer : List Env} {L a e dx a0 T : Addr} {m : Str → Option Value} {name : PySem.Str} {scope : Scope} {cd : Value} {news : List (Addr × Obj)} {od : Obj}
  {mean : ExcName → Option Value} {mg mb : Str → Option Value} {n : PySem.Str} {b₀ : Stmt} {suite : List Stmt} {pos np : Pos} {rest : List ExceptHandler} {Q : Flow → Shared → Prop} {E : Value → Shared → Prop}
theorem tf_catch (XB : (Mine.hd.heap_39 w.params).In base) (TB : Top Mine.hd.view_39 (looseW Mine.hd.view_39 []) mean mg mb base) (hA : A.frames = some (envOf name scope L a cd :: outer))
    (K : Below A₀ base outer g) (F : Fr g L hc m) (N : News g L hc news) (U : Up (L :: outer.filterMap (·.frame)) [] hc s'.heap)
    (he : s'.heap.get? e = some (exT a0 dx (.ref T))) (hd : s'.heap.get? dx = some od) (hT : Trc T .none s'.heap) (ne : hc.get? e = none) (nd : hc.get? dx = none) (nT : hc.get? T = none) (hde : dx ≠ e) (hTe : T ≠ e) (hdT : dx ≠ T)
    (k : ∀ h' g' T' tk, KtsTurn (outer.filterMap (·.frame)) g g' → Fr g' L h' (fun y => if y = n then some (.ref e) else m y) → News g' L h' ((e, exT a0 dx (.ref T')) :: (dx, od) :: news) → Below A₀ base outer g' → (Mine.hd.heap_39 w.params).In g' → Top Mine.hd.view_39 (looseW Mine.hd.view_39 []) mean mg mb g' →
      wpAny (model Challenge.rw_rg0116_01.row.prog w) (A.mark (some (.ref e))) (execs (b₀ :: suite) (envOf name scope L a cd))
        (fun f s₄ => wpAny (model Challenge.rw_rg0116_01.row.prog w) A (do bindName (envOf name scope L a cd) n .none; unbindBehindTheSuite (envOf name scope L a cd) n pos) (fun _ s₅ => Q f s₅) E s₄)
        (AsSuiteRaised (model Challenge.rw_rg0116_01.row.prog w) (A.mark (some (.ref e))) (envOf name scope L a cd) n pos (notedBy (model Challenge.rw_rg0116_01.row.prog w) (A.mark (some (.ref e))) (envOf name scope L a cd) (cameBackBy (model Challenge.rw_rg0116_01.row.prog w) A (envOf name scope L a cd) E)))
        { s' with heap := h', toks := tk })
    (hk : scope.kind = .function) (hlo : (envOf name scope L a cd).kindOf n = some .local) (hx : (envOf name scope L a cd).kindOf "TextFault" = some .globalImplicit) (hod : ∀ vs, od.data ≠ .fields vs) :
    wpAny (model Challenge.rw_rg0116_01.row.prog w) A (noteFrame (.ref e) (envOf name scope L a cd))
      (fun _ s₂ => wpAny (model Challenge.rw_rg0116_01.row.prog w) A (setFlight (.ref e) none) (fun _ s₃ =>
        wpAny (model Challenge.rw_rg0116_01.row.prog w) A (handleBy (.ref e) (envOf name scope L a cd) (.ExceptHandler (some (.Name "TextFault" np)) (some n) (b₀ :: suite) pos :: rest)) Q E s₃) E s₂) E s' := by
  have K' := K.push (name := name) (scope := scope) (a := a) (cd := cd) F hk
  have hl := U.fun K'.frames (by simp)
  have hfs : (envOf name scope L a cd :: outer).filterMap (·.frame) = L :: outer.filterMap (·.frame) := rfl
  obtain ⟨hh, gg, d, t, os⟩ := s'
  refine tf_note_next (fs := L :: outer.filterMap (·.frame)) hA hl rfl hfs he hT hTe fun h₁ T₁ u₁ n₁ hne₁ he₁ ht₁ => ?_
  refine tf_set_flight (fs := L :: outer.filterMap (·.frame)) he₁ ht₁ hne₁ fun h₂ u₂ he₂ ht₂ => ?_
  have up2 : Up (L :: outer.filterMap (·.frame)) [e, T, T₁] hh h₂ := (u₁.widen (by simp +contextual) (fun _ q => q)).trans (u₂.widen (by simp) (fun _ q => q))
  have nT₁ : hc.get? T₁ = none := by
    cases q : hc.get? T₁ with
    | none => rfl
    | some o =>
      obtain ⟨sl, hs⟩ := U.fram _ _ (by simp) q
      dsimp only at hs n₁
      rw [n₁] at hs
      cases hs
  have strip : ∀ {h : Heap}, Up (L :: outer.filterMap (·.frame)) [e, T, T₁] hh h → Up (L :: outer.filterMap (·.frame)) [] hc h := fun u => by
    have aux : ∀ b o, hc.get? b = some o → b ∉ [e, T, T₁] := fun b o q z => by
      simp only [List.mem_cons, List.not_mem_nil, or_false] at z
      rcases z with rfl | rfl | rfl
      · rw [ne] at q; cases q
      · rw [nT] at q; cases q
      · rw [nT₁] at q; cases q
    exact ⟨fun b o _ nf q => u.keep b o (aux b o q) nf (U.keep b o (by simp) nf q), fun b o _ q => by
      obtain ⟨s1, e1⟩ := U.fram b o (by simp) q
      obtain ⟨s2, e2⟩ := u.fram b _ (aux b o q) e1
      exact ⟨s2, e2⟩⟩
  obtain ⟨g₂, T2, F₂, N₂, K₂, fr₂⟩ := reground K F N (strip up2)
  have X₂ : (Mine.hd.heap_39 w.params).In g₂ := XB.keeps K₂.stays
  have P₂ : TopRead Mine.hd.view_39 (looseW Mine.hd.view_39 []) mg mb g₂ := topRead_of (TB.keeps K₂.stays)
  obtain ⟨nm, q', N', bs, sn, sub, ab, col, dd, k0, k1, k2, k3, k5, hC⟩ := tf_obj X₂
  have hC₂ := F₂.keep _ _ hC
  refine wpAny_handleBy_cons (codeAny_handlers_test (name_K F₂ X₂ P₂ (v := .ref 76) (by kernel_rfl) ?_ hk hx (by decide))) (by intro q; cases q)
  refine wpAny_excMatches_sub_self hC₂ he₂ rfl (by decide +kernel) (codeAny_handlers_suite_as ?_)
  refine tf_set_flight (fs := L :: outer.filterMap (·.frame)) he₂ ht₂ hne₁ fun h₃ u₃ he₃ ht₃ => ?_
  have up3 : Up (L :: outer.filterMap (·.frame)) [e, T, T₁] hh h₃ := up2.trans (u₃.widen (by simp) (fun _ q => q))
  obtain ⟨g₃, T3, F₃, N₃, K₃, fr₃⟩ := reground K F N (strip up3)
  have hdF : dx ∉ L :: outer.filterMap (·.frame) := fun hm => by
    rcases List.mem_cons.mp hm with z | z
    · obtain ⟨oL, _, _, hL, _⟩ := F.ns
      rw [z, hL] at nd
      cases nd
    · obtain ⟨_, o, ho, _⟩ := K.frames.mem z
      rw [F.keep _ _ ho] at nd
      cases nd
  have heF : e ≠ L := fun z => by
    obtain ⟨oL, _, _, hL, _⟩ := F.ns
    rw [z, hL] at ne
    cases ne
  have hd₃ : h₃.get? dx = some od := up3.keep dx od (by
    simp only [List.mem_cons, List.not_mem_nil, or_false, not_or]
    refine ⟨hde, hdT, fun z => ?_⟩
    dsimp only at hd n₁
    rw [z, n₁] at hd
    cases hd) hdF hd
  have NN : News g₃ L h₃ ((e, exT a0 dx (.ref T₁)) :: (dx, od) :: news) := fun p hp => by
    rcases List.mem_cons.mp hp with rfl | hp
    · exact ⟨he₃, heF, fr₃ _ ne⟩
    rcases List.mem_cons.mp hp with rfl | hp
    · exact ⟨hd₃, fun z => hdF (by rw [← z]; exact .head _), fr₃ _ nd⟩
    · exact N₃ p hp
  refine stN F₃ NN (fun h₄ F₄ N₄ => ?_) hk hlo
  exact k h₄ g₃ T₁ _ T3 F₄ N₄ K₃ (XB.keeps K₃.stays) (TB.keeps K₃.stays)
end
section
variable {prog : Program} {w : World} {A : Around} {E : Value → Shared → Prop} {h : Heap} {g : Array GenState} {d : Drawn} {t : Nat} {os : OsState} {e a0 dx : Addr} {tb : Value} {od : Obj} {i : Int} {ti : Tok}
theorem tf_find {Q : Found → Shared → Prop} (X : (Mine.hd.heap_39 w.params).In h) (he : h.get? e = some (exT a0 dx tb)) (hd : h.get? dx = some od) (hl : lookIn "spot" od = some (some (.int i ti))) (hq : Q (.value (.int i ti)) ⟨h, g, d, t, os⟩) :
    wpAny (model prog w) A (find (.ref e) (.ref 76) "spot") Q E ⟨h, g, d, t, os⟩ := by
  have I : InstAt h e (exT a0 dx tb) 76 (some od) := ⟨he, rfl, rfl, hd⟩
  unfold find
  refine wpAny_bind (Looks.at (looks_findIn X (name := "spot") (r := none) (by kernel_rfl)) ?_)
  refine wpAny_bind (wpAny_pure (wpAny_bind (wpAny_pure ?_)))
  unfold ownThenClass
  obtain ⟨cd, hc⟩ : ∃ cd, clsIn (Mine.hd.heap_39 w.params) 76 = some cd := ⟨_, rfl⟩
  have hh : cd.hasDict = true := by
    have : (clsIn (Mine.hd.heap_39 w.params) 76).map (·.hasDict) = some true := by kernel_rfl
    rw [hc] at this
    exact Option.some.inj this
  refine wpAny_bind (Looks.at (looks_own X I hc (r := some (.int i ti)) (by unfold PySem.W.ownOf; rw [if_pos hh]; exact hl)) ?_)
  exact wpAny_bind (wpAny_rule (wpAny_pure hq))
theorem tf_get {expr : Bool} {Q : Value → Shared → Prop} (X : (Mine.hd.heap_39 w.params).In h) (he : h.get? e = some (exT a0 dx tb)) (hd : h.get? dx = some od) (hl : lookIn "spot" od = some (some (.int i ti))) (hq : Q (.int i ti) ⟨h, g, d, t + 1, os⟩) :
    wpAny (model prog w) A (getAttr (.ref e) "spot" expr) Q E ⟨h, g, d, t, os⟩ := by
  obtain ⟨nm, q', N', bs, sn, sub, ab, col, dd, k0, k1, k2, k3, k5, hC⟩ := tf_obj X
  have FB := PySem.F.attrBase_Exception
  have I : InstAt h e (exT a0 dx tb) 76 (some od) := ⟨he, rfl, rfl, hd⟩
  unfold getAttr getAttrBy
  refine wpAny_bind (wpAny_mkText (wpAny_holding (wpAny_bind (Looks.at I.type (wpAny_bind (Looks.at (looks_findIn X (name := "__getattribute__") (r := some (.builtin "BaseException.__getattribute__")) (by kernel_rfl)) ?_))))))
  dsimp only
  rw [if_neg (by decide +kernel)]
  unfold getAttrByItsOwn hookBefore callGetattribute boundAndCalled
  refine wpAny_bind ?_
  show wpAny _ _ (typeLookup (.ref 76) "__getattr__") _ _ _
  refine Looks.at (looks_findIn X (name := "__getattr__") (r := none) (by kernel_rfl)) ?_
  have hx0 : (expr && onTheHeap (Value.builtin "BaseException.__getattribute__")) = false := by cases expr <;> rfl
  rw [hx0]
  refine wpAny_bind (wpAny_attempt (wpAny_holding ?_))
  show wpAny _ _ (bindSpecial (.builtin "BaseException.__getattribute__") (.ref e) >>= _) _ _ _
  refine wpAny_bind (wpAny_of_eq (FB.ga.bind (.ref e)) ?_)
  have hm : Looks (model prog w) h (isSubtype (.ref 76) (.type "BaseException")) true := fun A Q E s' k q => by
    obtain ⟨h', g, d, t, os⟩ := s'
    exact wpAny_isSubtype_exc (k _ _ hC) q
  have hs : Looks (model prog w) h (isInstance (.ref e) (.type "BaseException")) true := I.type.andThen hm
  have hk : builtinKind "BaseException.__getattribute__" = some .slot := by decide +kernel
  have hsp : splitId "BaseException.__getattribute__" = some ("BaseException", "__getattribute__") := by decide +kernel
  show wpAny _ _ (call (.builtin "BaseException.__getattribute__") [.ref e, .str "spot" t]) _ _ _
  refine wpAny_call ?_
  refine codeAny_call_builtin FB.ga.plain F.entry_bexc_ga ?_
  refine @check_slot (model prog w) _ _ ⟨h, g, d, t + 1, os⟩ "BaseException.__getattribute__" "BaseException" "__getattribute__" (.ref e) [.str "spot" t] [] _ hk hsp hs (F.args_bexc_ga (.ref e) (.str "spot" t)) ?_
  unfold Builtin.«object.__getattribute__»
  repeat (first | with_reducible refine Looks.at I.type ?_ | with_reducible refine tf_find X he hd hl ?_ | wp_step)
  exact hq
end
section
variable {prog : Program} {w : World} {A : Around} {E : Value → Shared → Prop} {s : Shared} {env : Env}
theorem tf_raise {ex : PySem.Expr} {pos : Pos} {Q : Flow → Shared → Prop} (hh : A.handled = none)
    (h : wpAny (model prog w) A (eval ex env) (fun v s₁ => ∃ e a0 dx, v = .ref e ∧ (Mine.hd.heap_39 w.params).In s₁.heap ∧ s₁.heap.get? e = some (exT a0 dx .none) ∧ E (.ref e) s₁) E s) :
    wpAny (model prog w) A (exec (.Raise (some ex) none pos) env) Q E s := by
  rw [arm_exec_Raise]
  refine wpAny_bind (wpAny_standAt ?_)
  show wpAny _ _ (raiseStmt env (some (eval ex env >>= fun v => standAt pos >>= fun _ => pure v)) none) _ _ _
  unfold raiseStmt
  refine wpAny_bind (wpAny_bind (wpAny_mono h (fun v s₁ h₁ => wpAny_bind (wpAny_standAt (wpAny_pure ?_))) fun _ _ x => x))
  obtain ⟨e, a0, dx, rfl, X, he, hE⟩ := h₁
  obtain ⟨nm, q', N', bs, sn, sub, ab, col, dd, k0, k1, k2, k3, k5, hC⟩ := tf_obj X
  have hcB : (Value.ref 76 :: tfTail).contains (.type "BaseException") = true := by decide +kernel
  obtain ⟨hp, g, d, tk, os⟩ := s₁
  repeat (first | with_reducible refine wpAny_loadPart_at he ?_ | with_reducible refine wpAny_loadPart_at hC ?_ | (with_reducible refine wpAny_isSubtype_exc hC ?_; rw [hcB]) | wp_step)
  exact wpAny_raiseNew_none hh hE
end
/-- a call has ended by the text's own exception e with the spot i: what its caller has of the heap -/
noncomputable def Thrown (fs : List Addr) (hc h' : Heap) (e : Addr) (i : Int) : Prop :=
  Up fs [] hc h' ∧ hc.get? e = none ∧ ∃ a0 dx T od ti, hc.get? dx = none ∧ hc.get? T = none ∧ dx ≠ e ∧ T ≠ e ∧ dx ≠ T ∧ h'.get? e = some (exT a0 dx (.ref T)) ∧ h'.get? dx = some od ∧ Trc T .none h' ∧ lookIn "spot" od = some (some (.int i ti))
section
variable {M : Model} {A A' : Around} {E : Value → Shared → Prop} {s : Shared} {base g hc : Heap} {env env' : Env} {outer : List Env} {L L' e a0 dx : Addr} {m : Str → Option Value} {od : Obj} {news : List (Addr × Obj)} {i : Int} {ti : Tok} {Q : Unit → Shared → Prop}
theorem thrown_leave {qual : PySem.Str} {scope : Scope} {f : Addr} {cdv : Value} (B : Below A base (env' :: outer) g) (hL : env'.frame = some L) (hg : ∀ b o, b ∉ ([] : List Addr) → hc.get? b = some o → g.get? b = some o) (hs : ∀ b o, g.get? b = some o → hc.get? b = some o) (F : Fr g L' s.heap m) (N : News g L' s.heap ((e, exT a0 dx .none) :: (dx, od) :: news)) (hde : dx ≠ e) (ho : lookIn "spot" od = some (some (.int i ti)))
    (hA : A'.frames = some (envOf qual scope L' f cdv :: env' :: outer))
    (h : ∀ h', Thrown (L :: outer.filterMap (·.frame)) hc h' e i → Q () { s with heap := h' }) (hk : scope.kind = .function) :
    wpAny M A' (leaving (envOf qual scope L' f cdv) (.ref e)) Q E s := by
  have K' := B.push (name := qual) (scope := scope) (a := f) (cd := cdv) F hk
  have hfs : (envOf qual scope L' f cdv :: env' :: outer).filterMap (·.frame) = L' :: L :: outer.filterMap (·.frame) := by
    simp only [List.filterMap_cons, hL]
    rfl
  have Ne := N _ (.head _)
  have Nd := N _ (.tail _ (.head _))
  refine tf_leave_first (base := base) (L := L') (fs := L' :: L :: outer.filterMap (·.frame)) hA K'.frames rfl hfs Ne.1 fun h' T u hn hTe he ht => ?_
  have nn : ∀ b, g.get? b = none → hc.get? b = none := fun b q => by
    cases z : hc.get? b with
    | none => rfl
    | some o => rw [hg b o (by simp) z] at q; cases q
  have nT : g.get? T = none := by
    cases z : g.get? T with
    | none => rfl
    | some o => rw [F.keep _ _ z] at hn; cases hn
  have nle : ∀ b o, g.get? b = some o → b ≠ e := fun b o q z => by rw [z, Ne.2.2] at q; cases q
  have nL' : ∀ b o, g.get? b = some o → b ≠ L' := fun b o q z => by rw [z, kts_self F] at q; cases q
  have hdF : dx ∉ L' :: L :: outer.filterMap (·.frame) := fun hm => by
    rw [← hfs] at hm
    obtain ⟨_, o, ho', _⟩ := K'.frames.mem hm
    rcases List.mem_cons.mp (hfs ▸ hm) with z | z
    · exact Nd.2.1 z
    · have hm2 : dx ∈ (env' :: outer).filterMap (·.frame) := by
        simp only [List.filterMap_cons, hL]
        exact z
      obtain ⟨_, o2, ho2, _⟩ := B.frames.mem hm2
      rw [Nd.2.2] at ho2
      cases ho2
  refine h h' ⟨⟨fun b o _ nf q => ?_, fun b o _ q => ?_⟩, nn _ Ne.2.2, a0, dx, T, od, ti, nn _ Nd.2.2, nn _ nT, hde, hTe, fun z => ?_, he, u.keep dx od (by simpa using hde) hdF Nd.1, ht, ho⟩
  · have q' := hg b o (by simp) q
    refine u.keep b o (by simpa using nle b o q') ?_ (F.keep b o q')
    simp only [List.mem_cons, not_or] at nf ⊢
    exact ⟨nL' b o q', nf⟩
  · have q' := hg b o (by simp) q
    exact u.fram b o (by simpa using nle b o q') (F.keep b o q')
  · have := Nd.1
    rw [z, hn] at this
    cases this
end
end
/- Words -/
theorem freshWords : True := by
  w_top off
  trivial
noncomputable abbrev tupObj (w : Str) (p : Int) (t1 t2 : Tok) : Obj := { cls := .type "tuple", data := .seq #[.str w t1, .int p t2] }
/-- the values are pairs of a text and a place, borne by the ledger -/
inductive TupAll (tl : List (Addr × Obj)) : List Value → List (Str × Int) → Prop
  | nil : TupAll tl [] []
  | cons {q : Addr} {w : Str} {p : Int} {t1 t2 : Tok} {vs : List Value} {ws : List (Str × Int)} : (q, tupObj w p t1 t2) ∈ tl → TupAll tl vs ws → TupAll tl (.ref q :: vs) ((w, p) :: ws)
theorem TupAll.mono {tl tl' : List (Addr × Obj)} (k : ∀ p ∈ tl, p ∈ tl') : ∀ {vs : List Value} {ws : List (Str × Int)}, TupAll tl vs ws → TupAll tl' vs ws
  | _, _, .nil => .nil
  | _, _, .cons h r => .cons (k _ h) (r.mono k)
theorem TupAll.snoc {tl : List (Addr × Obj)} {q : Addr} {w : Str} {p : Int} {t1 t2 : Tok} (h : (q, tupObj w p t1 t2) ∈ tl) : ∀ {vs : List Value} {ws : List (Str × Int)}, TupAll tl vs ws → TupAll tl (vs ++ [.ref q]) (ws ++ [(w, p)])
  | _, _, .nil => .cons h .nil
  | _, _, .cons h' r => .cons h' (r.snoc h)
theorem TupAll.length {tl : List (Addr × Obj)} : ∀ {vs : List Value} {ws : List (Str × Int)}, TupAll tl vs ws → vs.length = ws.length
  | _, _, .nil => rfl
  | _, _, .cons _ r => congrArg (· + 1) r.length
noncomputable def opC (c : Nat) : Bool := !badSign ⟨#[c]⟩
noncomputable def puC (c : Nat) : Bool := !(Builtin.Str.occurrences (Str.ofString "(),:") ⟨#[c]⟩ 0 (Str.length (Str.ofString "(),:")) 1).isEmpty
noncomputable def blC (c : Nat) : Bool := Txt.isspace ⟨#[c]⟩
noncomputable def goodC (c : Nat) : Bool := opC c || puC c || blC c
noncomputable abbrev encW (p : List Nat × Int) : Str × Int := (⟨p.1.toArray⟩, p.2)
noncomputable abbrev sgn (t : Str) (k : Nat) : Nat := t.cps.toList.getD k 0
theorem len_list (t : Str) : t.cps.toList.length = t.length := by rw [Array.length_toList]; rfl
theorem item_sgn {t : Str} {j : Nat} (h : j < t.length) : Txt.item t (j : Int) = ⟨#[sgn t j]⟩ := by
  rw [item_at (n := j) (Int.natCast_nonneg j) (by omega) (by omega)]
  have h' : j < t.cps.size := h
  simp only [sgn, Array.getD, h', dite_true, List.getD_eq_getElem?_getD]
  rw [List.getElem?_eq_getElem (by rw [Array.length_toList]; exact h')]
  simp
theorem isOp_sgn (c : Nat) : isOp ⟨#[c]⟩ = opC c := by
  unfold isOp opC
  have h : ((⟨#[c]⟩ : Str) != Str.ofString "") = true := by
    rw [bne_iff_ne]
    intro e
    have := congrArg (fun x : Str => x.cps.size) e
    exact absurd (show (1 : Nat) = 0 from this) (by decide)
  rw [h, Bool.true_and, show signs ⟨#[c]⟩ = [⟨#[c]⟩] from rfl]
  cases hb : badSign ⟨#[c]⟩ <;> simp [hb]
theorem slice_sgn {t : Str} {i j : Nat} (h1 : i ≤ j) (h2 : j ≤ t.length) : Txt.slice t (some (i : Int)) (some (j : Int)) = ⟨((t.cps.toList.drop i).take (j - i)).toArray⟩ := by
  have := slice_closes (x := t) (i := i) (j := j) ⟨Int.natCast_nonneg i, by omega, by rw [len_list]; omega⟩
  rw [eq_of_beq this]
  congr 4
  omega
noncomputable def WInv (t : Str) (tk : Tok) (fl : Addr) (n : Nat) (m : Str → Option Value) (news : List (Addr × Obj)) : Prop :=
  ∃ (i : Nat) (t1 : Tok) (vs : List Value) (ws : List (Str × Int)) (tl : List (Addr × Obj)) (k : Nat),
    news = (fl, listOf vs.toArray k) :: tl ∧ (∀ p ∈ tl, p.1 ≠ fl) ∧ TupAll tl vs ws ∧ m "text" = some (.str t tk) ∧ m "found" = some (.ref fl) ∧ m "spot" = some (.int i t1) ∧ i ≤ t.length ∧ n = t.length - i ∧ vs.length ≤ i ∧
    ws ++ (toks opC puC (t.cps.toList.drop i) i).map encW = (toks opC puC t.cps.toList 0).map encW ∧ (∀ k, k < i → goodC (sgn t k) = true)
noncomputable def WInv2 (t : Str) (tk : Tok) (fl : Addr) (i : Nat) (ti : Tok) (nw : List (Addr × Obj)) (n : Nat) (m : Str → Option Value) (news : List (Addr × Obj)) : Prop :=
  ∃ (j : Nat) (t1 : Tok), news = nw ∧ m "text" = some (.str t tk) ∧ m "found" = some (.ref fl) ∧ m "begin" = some (.int i ti) ∧ m "spot" = some (.int j t1) ∧ i ≤ j ∧ j ≤ t.length ∧ n = t.length - j ∧ (∀ k, i ≤ k → k < j → opC (sgn t k) = true)
/-- what words_of tells of a text that has no bad sign -/
noncomputable def wordsT (t : Str) : List (Str × Int) := (toks opC puC t.cps.toList 0).map encW ++ [(Str.ofString "", (t.length : Int))]
section
variable {g h : Heap} {L fl D : Addr} {s : Shared} {t w : Str} {xt ta tb t2 : Tok} {n i j k tk : Nat} {m : Str → Option Value} {vs : List Value} {ws : List (Str × Int)} {tl : List (Addr × Obj)} {p : Int}
theorem winv_app (F : Fr g L h m) (N : News g L h ((D, tupObj w p ta tb) :: (fl, listOf (vs.toArray.push (.ref D)) (k + 1)) :: tl)) (hoff : ∀ p ∈ tl, p.1 ≠ fl) (hD : fl < D) (hT : TupAll tl vs ws)
    (e1 : m "text" = some (.str t xt)) (e2 : m "found" = some (.ref fl)) (e3 : m "spot" = some (.int j t2)) (hij : i < j) (hj : j ≤ t.length) (hn : n = t.length - i) (hvl : vs.length ≤ i)
    (hw : ws ++ (toks opC puC (t.cps.toList.drop i) i).map encW = (toks opC puC t.cps.toList 0).map encW) (hnew : (toks opC puC (t.cps.toList.drop i) i).map encW = (w, p) :: (toks opC puC (t.cps.toList.drop j) j).map encW)
    (hg : ∀ k, k < i → goodC (sgn t k) = true) (hg2 : ∀ k, i ≤ k → k < j → goodC (sgn t k) = true) : WhileStep g L s (WInv t xt fl) n .next { s with heap := h, toks := tk } := by
  refine WhileStep.intro (n' := t.length - j) (news₂ := (fl, listOf (vs ++ [Value.ref D]).toArray (k + 1)) :: (D, tupObj w p ta tb) :: tl) F (fun q hq => ?_) (by omega) ⟨j, t2, vs ++ [Value.ref D], ws ++ [(w, p)], (D, tupObj w p ta tb) :: tl, k + 1, rfl, ?_, ?_, e1, e2, e3, hj, rfl, ?_, ?_, ?_⟩
  · rcases List.mem_cons.mp hq with rfl | hq
    · rw [← List.push_toArray]
      exact N _ (.tail _ (.head _))
    · rcases List.mem_cons.mp hq with rfl | hq
      · exact N _ (.head _)
      · exact N _ (.tail _ (.tail _ hq))
  · intro q hq
    rcases List.mem_cons.mp hq with rfl | hq
    · exact Nat.ne_of_gt hD
    · exact hoff q hq
  · exact (hT.mono fun q hq => .tail _ hq).snoc (.head _)
  · rw [List.length_append, List.length_singleton]; omega
  · rw [← hw, hnew, List.append_assoc]; rfl
  · intro k hk
    by_cases h : k < i
    · exact hg k h
    · exact hg2 k (by omega) hk
theorem winv_skip (F : Fr g L h m) (N : News g L h ((fl, listOf vs.toArray k) :: tl)) (hoff : ∀ p ∈ tl, p.1 ≠ fl) (hT : TupAll tl vs ws)
    (e1 : m "text" = some (.str t xt)) (e2 : m "found" = some (.ref fl)) (e3 : m "spot" = some (.int (i + 1 : Nat) t2)) (hj : i < t.length) (hn : n = t.length - i) (hvl : vs.length ≤ i)
    (hw : ws ++ (toks opC puC (t.cps.toList.drop i) i).map encW = (toks opC puC t.cps.toList 0).map encW) (h1 : opC (sgn t i) = false) (h2 : puC (sgn t i) = false) (h3 : blC (sgn t i) = true)
    (hg : ∀ k, k < i → goodC (sgn t k) = true) : WhileStep g L s (WInv t xt fl) n .next { s with heap := h, toks := tk } := by
  refine WhileStep.intro (n' := t.length - (i + 1)) F N (by omega) ⟨i + 1, t2, vs, ws, tl, k, rfl, hoff, hT, e1, e2, e3, hj, rfl, by omega, ?_, ?_⟩
  · rw [← hw, toks_skip (by rw [len_list]; exact hj) h1 h2]; rfl
  · intro k hk
    by_cases h : k < i
    · exact hg k h
    · rw [show k = i by omega]
      unfold goodC
      rw [h3, Bool.or_true]
theorem words_fin {S h' : Heap} {l2 : Addr} {xs : Array Value} {P : Addr → Prop} (N6 : News g L h ((l2, listOf xs 0) :: (D, tupObj w p ta tb) :: (fl, listOf vs.toArray k) :: tl))
    (N5 : News g L h' ((h.objs.size, listOf (vs ++ [Value.ref D]).toArray 0) :: (l2, listOf xs 0) :: (D, tupObj w p ta tb) :: (fl, listOf vs.toArray k) :: tl)) (hT : TupAll tl vs ws)
    (hgs : ∀ b o, S.get? b = some o → g.get? b = some o)
    (hk : ∀ r vs' n tl', (∀ p ∈ (r, listOf (vs' : List Value).toArray n) :: tl', h'.get? p.1 = some p.2 ∧ S.get? p.1 = none) → (∀ p ∈ tl', p.1 ≠ r) → TupAll tl' vs' (ws ++ [(w, p)]) → P r) : P h.objs.size := by
  refine hk _ (vs ++ [Value.ref D]) 0 ((D, tupObj w p ta tb) :: tl) (fun q hq => ?_) (fun q hq => Nat.ne_of_lt (Heap.lt_size (N6 q ?_).1)) ((hT.mono fun q hq => .tail _ hq).snoc (.head _))
  · have z : h'.get? q.1 = some q.2 ∧ q.1 ≠ L ∧ g.get? q.1 = none := by
      rcases List.mem_cons.mp hq with rfl | hq
      · exact N5 _ (.head _)
      · rcases List.mem_cons.mp hq with rfl | hq
        · exact N5 _ (.tail _ (.tail _ (.head _)))
        · exact N5 _ (.tail _ (.tail _ (.tail _ (.tail _ hq))))
    exact ⟨z.1, kts_none hgs z.2.2⟩
  · rcases List.mem_cons.mp hq with rfl | hq
    · exact .tail _ (.head _)
    · exact .tail _ (.tail _ (.tail _ hq))
theorem run_new (hij : i < j) (hj : j ≤ t.length) (hop : ∀ k, i ≤ k → k < j → opC (sgn t k) = true) (hend : j < t.length → opC (sgn t j) = false) :
    (toks opC puC (t.cps.toList.drop i) i).map encW = (Txt.slice t (some (i : Int)) (some (j : Int)), (i : Int)) :: (toks opC puC (t.cps.toList.drop j) j).map encW := by
  rw [toks_run (j := j) (by rw [len_list]; exact hj) hij hop (by rw [len_list]; exact hend), List.map_cons, slice_sgn (Nat.le_of_lt hij) hj]
  have : (i : Int) + ((j - i : Nat) : Int) = j := by omega
  rw [this]
theorem mark_new (hi : i < t.length) (h1 : opC (sgn t i) = false) (h2 : puC (sgn t i) = true) :
    (toks opC puC (t.cps.toList.drop i) i).map encW = (Txt.item t (i : Int), (i : Int)) :: (toks opC puC (t.cps.toList.drop (i + 1)) ((i + 1 : Nat) : Int)).map encW := by
  rw [toks_mark (by rw [len_list]; exact hi) h1 h2, List.map_cons, item_sgn hi]
  rfl
end
theorem msg_len {t : Str} {j : Nat} (h : j < t.length) : (Str.empty ++ Txt.item t (j : Int) ++ (" stands for nothing" : Str)).length ≤ sizeLine := by
  have h1 : (" stands for nothing" : Str).length = 19 := by decide +kernel
  rw [Str.length_append, Str.length_append, item_sgn h, sizeLine_eq, h1]
  have h2 : (Str.empty : Str).length = 0 := rfl
  have h3 : (⟨#[sgn t j]⟩ : Str).length = 1 := rfl
  omega
set_option maxHeartbeats 40000000 in
theorem words_ok {w : World} {A₀ : Around} {s : Shared} {base h₀ : Heap} {outer : List Env} {L a : Addr} {m : Str → Option Value} {mean : ExcName → Option Value} {mg mb : Str → Option Value} {Q : Value → Shared → Prop} {E : Value → Shared → Prop} {dp un : Nat} {gd : Option (List Code)} {cn : Str} {cs : Scope} {ccd : Value} {cll : List (Str × Addr)}
    {t : Str} {xt : Tok}
    (C : Cx w s.heap A₀ base h₀ cs outer L m mean mg mb) (hlen : t.length ≤ 1000) (hd : dp + 20 < recursionLimit) (hu : un + 100 < cLine)
    (hQ : (∀ k, k < t.length → goodC (sgn t k) = true) → ∀ r vs n tl h' tk', Kp [] s.heap h' → (∀ p ∈ (r, listOf (vs : List Value).toArray n) :: tl, h'.get? p.1 = some p.2 ∧ s.heap.get? p.1 = none) → (∀ p ∈ tl, p.1 ≠ r) → TupAll tl vs (wordsT t) → Q (.ref r) { s with heap := h', toks := tk' })
    (hE : ∀ i : Nat, i < t.length → goodC (sgn t i) = false → (∀ k, k < i → goodC (sgn t k) = true) → ∀ e h' tk', Thrown (L :: outer.filterMap (·.frame)) s.heap h' e i → E (.ref e) { s with heap := h', toks := tk' }) :
    wpAny (model Challenge.rw_rg0116_01.row.prog w) (ktrTop dp un gd cn cs L a ccd cll outer) (call (.ref 145) [.str t xt]) Q E s := by
  have N : News h₀ L s.heap [] := News.nil
  refine wpAny_call ?_
  with_unfolding_all refine' enter (binds := [("text", .str t xt)]) ?kC ?kN ?k6 ?k7 ?k8 ?k9 ?kB ?_ ?c2 ?c3 ?c4 ?c5 ?eb ?es
  k_dflt ((case kC => assumption); (case kN => assumption); (case k6 => k_is); (case eb => (conv => lhs; whnf)); (case es => (conv => lhs; whnf)); (case k7 => k_is); (case k8 => first | exact room0 (by assumption) | omega); (case k9 => exact BindsTo.of_eq rfl); (case c5 => decide); (case kB => exact locs rfl); (case c2 => exact rfl); (case c3 => exact rfl); (case c4 => exact rfl))
  intro g' L' h' hg' hs' F' N' B' X' T'
  dsimp only [List.reverse, List.reverseAux, bmap, List.length] at F' ⊢
  k_fold
  (repeat' (first | (k_unfold; (try dsimp only)) | ((fail_if_success (with_reducible first | refine stop_at [76] (by decide) ?_ | refine stop_st (by decide) ?_ | refine stop_bl (by decide) ?_ | refine stop_lc ?_ | refine stop_jp ?_ | show LCg.CompSrc _ _ _ _ _ _ _ _ _ _ _ _ _ _ | show LCt.CompSrcT _ _ _ _ _ _ _ _ _ _ _ _ _ _ _)); (first | ((with_reducible refine stop_cr ?_); first | (k_here; (with_reducible show wpAny _ _ (call (Value.ref 95) _) _ _ _); k_dflt (refine' isop_use ?B ?F ?X ?T ?hk ?N ?l ?d ?u ?_; (case B => k_asm); (case F => k_asm); (case X => k_asm); (case T => k_asm); (case hk => exact rfl); (case N => k_asm); (case l => (first | assumption | exact Nat.le_of_ble_eq_true rfl | omega)); (case d => first | exact room2 (by assumption) (by exact rfl) | exact room1 (by assumption) (by exact rfl) | omega | (dsimp only [ktrTop]; omega)); (case u => first | exact room2 (by assumption) (by exact rfl) | exact room1 (by assumption) (by exact rfl) | omega | (dsimp only [ktrTop]; omega))); intro _ _ _ _; (try k_sweep))) | walk1 | (dsimp only; first | walk1 | (k_unfold; (try dsimp only)))))))
  rename Fr g' _ _ _ => F2
  rename News _ _ _ [(_, _), (_, listOf _ _)] => N2
  rename_i l' _ _ D' _ lD _ _ _
  refine While_inv (WInv t xt l') F2 (fun p hp => N2 p (.tail _ hp)) (n₀ := t.length) ?_ ?_
  · exact ⟨0, _, [], [], [], _, rfl, (fun _ hp => nomatch hp), .nil, rfl, rfl, rfl, Nat.zero_le _, rfl, Nat.zero_le _, rfl, fun k hk => absurd hk (Nat.not_lt_zero k)⟩
  · intro n m₁ news₁ h₁ tk₁ F₁ N₁ hJ
    clear N2 F2
    obtain ⟨i, t1, vs, ws, tl, k, rfl, hoff, hT, e1, e2, e3, hi, hn, hvl, hw, hgd⟩ := hJ
    replace F₁ := fr_over [("text", .str t xt), ("found", .ref l'), ("spot", .int i t1)] F₁ (by simp [e1, e2, e3])
    dsimp only [over] at F₁
    have hi' : (i : Int) ≤ t.length := by omega
    (repeat' (first | (k_unfold; (try dsimp only)) | ((fail_if_success (with_reducible first | refine stop_at [76] (by decide) ?_ | refine stop_st (by decide) ?_ | refine stop_bl (by decide) ?_ | refine stop_lc ?_ | refine stop_jp ?_ | show LCg.CompSrc _ _ _ _ _ _ _ _ _ _ _ _ _ _ | show LCt.CompSrcT _ _ _ _ _ _ _ _ _ _ _ _ _ _ _)); (first | ((with_reducible refine stop_cr ?_); first | (k_here; (with_reducible show wpAny _ _ (call (Value.ref 95) _) _ _ _); k_dflt (refine' isop_use ?B ?F ?X ?T ?hk ?N ?l ?d ?u ?_; (case B => k_asm); (case F => k_asm); (case X => k_asm); (case T => k_asm); (case hk => exact rfl); (case N => k_asm); (case l => (first | assumption | exact Nat.le_of_ble_eq_true rfl | omega)); (case d => first | exact room2 (by assumption) (by exact rfl) | exact room1 (by assumption) (by exact rfl) | omega | (dsimp only [ktrTop]; omega)); (case u => first | exact room2 (by assumption) (by exact rfl) | exact room1 (by assumption) (by exact rfl) | omega | (dsimp only [ktrTop]; omega))); intro _ _ _ _; (try k_sweep))) | walk1 | (dsimp only; first | walk1 | (k_unfold; (try dsimp only)))))))
    · rename Fr g' _ _ _ => F3
      rename News g' _ _ (_ :: tl) => N3
      rename (i : Int) < (t.length : Int) => hilt
      refine While_inv (WInv2 t xt l' i t1 ((l', listOf vs.toArray k) :: tl)) F3 N3 (n₀ := t.length - i) ⟨i, t1, rfl, rfl, rfl, rfl, rfl, Nat.le_refl _, hi, rfl, fun k h1 h2 => absurd h2 (by omega)⟩ ?_
      intro n2 m₂ news₂ h₂ tk₂ F₄ N₄ hJ2
      clear F3 N3
      obtain ⟨j, t2, rfl, g1, g2, g3, g4, hij, hj, hn2, hop⟩ := hJ2
      replace F₄ := fr_over [("text", .str t xt), ("found", .ref l'), ("begin", .int i t1), ("spot", .int j t2)] F₄ (by simp [g1, g2, g3, g4])
      dsimp only [over] at F₄
      have hj' : (j : Int) ≤ t.length := by omega
      have hij' : (i : Int) ≤ j := by omega
      (repeat' (first | (k_unfold; (try dsimp only)) | ((fail_if_success (with_reducible first | refine stop_at [76] (by decide) ?_ | refine stop_st (by decide) ?_ | refine stop_bl (by decide) ?_ | refine stop_lc ?_ | refine stop_jp ?_ | show LCg.CompSrc _ _ _ _ _ _ _ _ _ _ _ _ _ _ | show LCt.CompSrcT _ _ _ _ _ _ _ _ _ _ _ _ _ _ _)); (first | ((with_reducible refine stop_cr ?_); first | (k_here; (with_reducible show wpAny _ _ (call (Value.ref 95) _) _ _ _); k_dflt (refine' isop_use ?B ?F ?X ?T ?hk ?N ?l ?d ?u ?_; (case B => k_asm); (case F => k_asm); (case X => k_asm); (case T => k_asm); (case hk => exact rfl); (case N => k_asm); (case l => (first | assumption | exact Nat.le_of_ble_eq_true rfl | omega)); (case d => first | exact room2 (by assumption) (by exact rfl) | exact room1 (by assumption) (by exact rfl) | omega | (dsimp only [ktrTop]; omega)); (case u => first | exact room2 (by assumption) (by exact rfl) | exact room1 (by assumption) (by exact rfl) | omega | (dsimp only [ktrTop]; omega))); intro _ _ _ _; (try k_sweep))) | walk1 | (dsimp only; first | walk1 | (k_unfold; (try dsimp only)))))))
      · rename Fr g' _ _ _ => F5
        rename News g' _ _ _ => N5
        rename (j : Int) < (t.length : Int) => hjlt
        have hjn : j < t.length := by omega
        rename isOp _ = true => ho
        rw [item_sgn hjn, isOp_sgn] at ho
        refine WhileStep.intro (n' := t.length - (j + 1)) F5 N5 (by omega) ⟨j + 1, _, rfl, rfl, rfl, rfl, rfl, by omega, hjn, rfl, fun k h1 h2 => ?_⟩
        by_cases h : k < j
        · exact hop k h1 h
        · rw [show k = j by omega]; exact ho
      · rename Fr g' _ _ _ => F5
        rename News g' _ _ _ => N5
        rename _ ∧ AllLt _ _ => lD
        rename (j : Int) < (t.length : Int) => hjlt
        rename (i : Int) < (j : Int) => hijlt
        have hjn : j < t.length := by omega
        rename isOp _ = false => ho
        rw [item_sgn hjn, isOp_sgn] at ho
        exact winv_app F5 N5 hoff lD.1 hT rfl rfl rfl (by omega) hj hn hvl hw (run_new (by omega) hj hop fun _ => ho) hgd fun k h1 h2 => by unfold goodC; rw [hop k h1 h2]; rfl
      · rename Fr g' _ _ _ => F5
        rename News g' _ _ _ => N5
        rename (j : Int) < (t.length : Int) => hjlt
        rename ¬ (i : Int) < (j : Int) => hijlt
        have hjn : j < t.length := by omega
        obtain rfl : j = i := by omega
        rename isOp _ = false => ho
        rename List.isEmpty _ = true => hp
        rename Txt.isspace _ = true => hb
        rw [item_sgn hjn] at ho hp hb
        rw [isOp_sgn] at ho
        exact winv_skip F5 N5 hoff hT rfl rfl rfl hjn hn hvl hw ho (by unfold puC; rw [hp]; rfl) hb hgd
      · rename Fr g' _ _ _ => F5
        rename News g' _ _ _ => N5
        rename Below _ _ _ g' => B5
        rename (j : Int) < (t.length : Int) => hjlt
        rename ¬ (i : Int) < (j : Int) => hijlt
        have hjn : j < t.length := by omega
        obtain rfl : j = i := by omega
        rename isOp _ = false => ho
        rename List.isEmpty _ = true => hp
        rename Txt.isspace _ = false => hb
        rw [item_sgn hjn] at ho hp hb
        rw [isOp_sgn] at ho
        refine tf_raise rfl ?_
        (repeat' (first | (k_unfold; (try dsimp only)) | ((fail_if_success (with_reducible first | refine stop_at [76] (by decide) ?_ | refine stop_st (by decide) ?_ | refine stop_bl (by decide) ?_ | refine stop_lc ?_ | refine stop_jp ?_ | show LCg.CompSrc _ _ _ _ _ _ _ _ _ _ _ _ _ _ | show LCt.CompSrcT _ _ _ _ _ _ _ _ _ _ _ _ _ _ _)); (first | ((with_reducible refine stop_cr ?_); first | (k_here; (with_reducible show wpAny _ _ (call (Value.ref 95) _) _ _ _); k_dflt (refine' isop_use ?B ?F ?X ?T ?hk ?N ?l ?d ?u ?_; (case B => k_asm); (case F => k_asm); (case X => k_asm); (case T => k_asm); (case hk => exact rfl); (case N => k_asm); (case l => (first | assumption | exact Nat.le_of_ble_eq_true rfl | omega)); (case d => first | exact room2 (by assumption) (by exact rfl) | exact room1 (by assumption) (by exact rfl) | omega | (dsimp only [ktrTop]; omega)); (case u => first | exact room2 (by assumption) (by exact rfl) | exact room1 (by assumption) (by exact rfl) | omega | (dsimp only [ktrTop]; omega))); intro _ _ _ _; (try k_sweep))) | walk1 | (dsimp only; first | walk1 | (k_unfold; (try dsimp only)))))))
        refine joinParts_nilE ?_
        refine joinParts_nil ?_ ?_
        rotate_left
        · with_reducible exact msg_len hjn
        (repeat' (first | (k_unfold; (try dsimp only)) | ((fail_if_success (with_reducible first | refine stop_at [76] (by decide) ?_ | refine stop_st (by decide) ?_ | refine stop_bl (by decide) ?_ | refine stop_lc ?_ | refine stop_jp ?_ | show LCg.CompSrc _ _ _ _ _ _ _ _ _ _ _ _ _ _ | show LCt.CompSrcT _ _ _ _ _ _ _ _ _ _ _ _ _ _ _)); (first | ((with_reducible refine stop_cr ?_); first | (k_here; (with_reducible show wpAny _ _ (call (Value.ref 95) _) _ _ _); k_dflt (refine' isop_use ?B ?F ?X ?T ?hk ?N ?l ?d ?u ?_; (case B => k_asm); (case F => k_asm); (case X => k_asm); (case T => k_asm); (case hk => exact rfl); (case N => k_asm); (case l => (first | assumption | exact Nat.le_of_ble_eq_true rfl | omega)); (case d => first | exact room2 (by assumption) (by exact rfl) | exact room1 (by assumption) (by exact rfl) | omega | (dsimp only [ktrTop]; omega)); (case u => first | exact room2 (by assumption) (by exact rfl) | exact room1 (by assumption) (by exact rfl) | omega | (dsimp only [ktrTop]; omega))); intro _ _ _ _; (try k_sweep))) | walk1 | (dsimp only; first | walk1 | (k_unfold; (try dsimp only)))))))
        k_dflt (refine' fault_ok _ _ _ _ ⟨?kB, ?kF, ?kX, ?kT, ?kk⟩ ?kd ?ku ?_; (case kB => k_asm); (case kF => k_asm); (case kX => k_asm); (case kT => k_asm); (case kk => exact rfl); (case kd => dsimp only [ktrTop]; omega); (case ku => dsimp only [ktrTop]; omega))
        intro e dx h6 tk6 hw6 tw6 hs6 ts6 a06 k6 F6 N6 ne6 nd6 hde6
        refine ⟨e, a06, dx, rfl, X'.keeps F6.keep, (N6 _ (.head _)).1, ?_⟩
        k_unfold
        refine thrown_leave (hc := s.heap) (i := (j : Int)) B5 rfl hg' hs' F6 N6 hde6 rfl rfl (fun h7 th => ?_) rfl
        refine hE j hjn ?_ hgd e h7 _ th
        unfold goodC puC blC
        rw [ho, hp, hb]
        rfl
      · rename Fr g' _ _ _ => F5
        rename News g' _ _ _ => N5
        rename _ ∧ AllLt _ _ => lD
        rename (j : Int) < (t.length : Int) => hjlt
        rename ¬ (i : Int) < (j : Int) => hijlt
        have hjn : j < t.length := by omega
        obtain rfl : j = i := by omega
        rename isOp _ = false => ho
        rename List.isEmpty _ = false => hp
        rw [item_sgn hjn] at ho
        rw [isOp_sgn] at ho
        have hpu : puC (sgn t j) = true := by
          rw [item_sgn hjn] at hp
          unfold puC
          rw [hp]
          rfl
        exact winv_app (j := j + 1) F5 N5 hoff lD.1 hT rfl rfl rfl (Nat.lt_succ_self j) hjn hn hvl hw (mark_new hjn ho hpu) hgd fun k h1 h2 => by
          rw [show k = j by omega]; unfold goodC; rw [hpu, Bool.or_true, Bool.true_or]
      · rename Fr g' _ _ _ => F5
        rename News g' _ _ _ => N5
        rename _ ∧ AllLt _ _ => lD
        rename ¬ (j : Int) < (t.length : Int) => hjlt
        exact winv_app F5 N5 hoff lD.1 hT rfl rfl rfl (by omega) hj hn hvl hw (run_new (by omega) hj hop fun h => absurd h (by omega)) hgd fun k h1 h2 => by unfold goodC; rw [hop k h1 h2]; rfl
    · rename Fr g' _ _ _ => F5
      rename News g' _ _ (_ :: (_, listOf _ 0) :: _ :: (_, listOf _ k) :: tl) => N5
      rename ¬ (i : Int) < (t.length : Int) => hilt
      obtain rfl : i = t.length := by omega
      rename News g' _ _ ((_, listOf _ 0) :: _ :: (_, listOf _ k) :: tl) => N6
      have hws : ws = (toks opC puC t.cps.toList 0).map encW := by
        rw [← hw, toks_end (by rw [len_list]; exact Nat.le_refl _)]
        simp
      subst hws
      exact words_fin N6 N5 hT (fun b o1 e => hg' b o1 (by simp) e) fun r vs' n' tl' k1 k2 k3 => hQ hgd r vs' n' tl' _ _ (fun b o1 hb e => F5.keep b o1 (hg' b o1 (by simp) e)) k1 k2 k3
/- Reader -/
theorem freshReader : True := by
  w_top off
  trivial
theorem at_nat {vs : List Value} {p : Nat} {i : Int} {v : Value} (h : vs[p]? = some v) (e : i = p) : vs[i.toNat]? = some v := by
  subst e
  exact h
/-- the toks and hashes of a reader's dict -/
structure RK where
  (h1 h2 h3 h4 : Int) (t1 t2 t3 t4 tm : Tok)
noncomputable abbrev rdEs (k : RK) (r : Addr) (p d : Int) (tp td : Tok) : List DictEntry :=
  [⟨k.h1, .str "words" k.t1, .ref r⟩, ⟨k.h2, .str "place" k.t2, .int p tp⟩, ⟨k.h3, .str "deep" k.t3, .int d td⟩, ⟨k.h4, .str "most" k.t4, .int 40 k.tm⟩]
noncomputable abbrev rdDict (k : RK) (r : Addr) (p d : Int) (tp td : Tok) : Obj := { cls := .type "dict", data := .dict (rdEs k r p d tp td).toArray 4 }
theorem kp_of {h₀ g h h' : Heap} {L L' : Addr} {m' : PySem.Str → Option Value} {news news' : List (Addr × Obj)} {S : List Addr} (N : News h₀ L h news) (hg : ∀ b o, b ∉ news.map (·.1) → h.get? b = some o → g.get? b = some o) (F : Fr g L' h' m') (N' : News g L' h' news')
    (hsub : ∀ p ∈ news, p.1 ∉ S → p ∈ news') : Kp S h h' := fun b o nS e => by
  by_cases hb : b ∈ news.map (·.1)
  · obtain ⟨p, hp, rfl⟩ := List.mem_map.mp hb
    have := (N p hp).1
    rw [e] at this
    cases this
    exact (N' _ (hsub p hp nS)).1
  · exact F.keep b o (hg b o hb e)
noncomputable abbrev rdL (rd dxr r : Addr) (k : RK) (p d : Nat) (tp td : Tok) (vs : List Value) (n : Nat) (tl : List (Addr × Obj)) : List (Addr × Obj) :=
  (rd, instObj 258 dxr) :: (dxr, rdDict k r p d tp td) :: (r, PySem.W.listOf vs.toArray n) :: tl
/-- what does not hang on the heap -/
structure RdOk (rd dxr r : Addr) (vs : List Value) (tl : List (Addr × Obj)) (ws : List (PySem.Str × Int)) : Prop where
  T : TupAll tl vs ws
  n1 : rd ≠ dxr
  n2 : r ≠ dxr
  n3 : ∀ x ∈ tl, x.1 ≠ dxr
  sm : ws.length < 100000
  ln : ∀ x ∈ ws, x.1.length ≤ 1000
theorem TupAll.at {tl : List (Addr × Obj)} {wd : PySem.Str} {sp : Int} : ∀ {vs : List Value} {ws : List (PySem.Str × Int)} {p : Nat}, TupAll tl vs ws → ws[p]? = some (wd, sp) → ∃ q t1 t2, vs[p]? = some (.ref q) ∧ (q, tupObj wd sp t1 t2) ∈ tl
  | _, _, p, .nil, h => by cases h
  | _, _, 0, .cons hm _, h => by
    cases h
    exact ⟨_, _, _, rfl, hm⟩
  | _, _, p + 1, .cons _ r, h => r.at (p := p) h
theorem rd_sub {rd dxr r q : Addr} {o1 o2 o2' o3 o4 : Obj} {S : List Addr} (hS : S = [dxr]) : ∀ x ∈ [(rd, o1), (dxr, o2), (r, o3), (q, o4)], x.1 ∉ S → x ∈ [(rd, o1), (dxr, o2'), (r, o3), (q, o4)] := fun x hx nx => by
  subst hS
  simp only [List.mem_cons, List.not_mem_nil, or_false] at hx nx ⊢
  rcases hx with rfl | rfl | rfl | rfl
  · exact .inl rfl
  · exact absurd rfl nx
  · exact .inr (.inr (.inl rfl))
  · exact .inr (.inr (.inr rfl))
section
variable {w : World} {A₀ : Around} {s : Shared} {base h₀ : Heap} {outer : List Env} {L a : Addr} {m : PySem.Str → Option Value} {mean : ExcName → Option Value} {mg mb : PySem.Str → Option Value} {Q : Value → Shared → Prop} {E : Value → Shared → Prop} {dp un : Nat} {gd : Option (List Code)} {cn : PySem.Str} {cs : Scope} {ccd : Value} {cll : List (PySem.Str × Addr)}
  {rd dxr r q : Addr} {k : RK} {p d : Nat} {tp td : Tok} {vs : List Value} {n : Nat} {tl : List (Addr × Obj)} {ws : List (PySem.Str × Int)} {wd : PySem.Str} {sp : Int} {t1 t2 : Tok}
set_option maxHeartbeats 4000000 in
theorem word_ok
    (C : Cx w s.heap A₀ base h₀ cs outer L m mean mg mb) (N : News h₀ L s.heap [(rd, instObj 258 dxr), (dxr, rdDict k r p d tp td), (r, PySem.W.listOf vs.toArray n), (q, tupObj wd sp t1 t2)]) (hq : vs[p]? = some (.ref q)) (hp : p < 100000) (hd : dp + 3 < recursionLimit) (hu : un + 10 < cLine)
    (hQ : ∀ h' tk', Kp [] s.heap h' → Q (.str wd t1) { s with heap := h', toks := tk' }) :
    wpAny (model Challenge.rw_rg0116_01.row.prog w) (ktrTop dp un gd cn cs L a ccd cll outer) (call (.ref 166) [.ref rd]) Q E s := by
  refine wpAny_call ?_
  with_unfolding_all refine' enter (binds := [("self", .ref rd)]) ?kC ?kN ?k6 ?k7 ?k8 ?k9 ?kB ?_ ?c2 ?c3 ?c4 ?c5 ?eb ?es
  k_dflt ((case kC => assumption); (case kN => assumption); (case k6 => k_is); (case eb => (conv => lhs; whnf)); (case es => (conv => lhs; whnf)); (case k7 => k_is); (case k8 => first | exact room0 (by assumption) | omega); (case k9 => exact BindsTo.of_eq rfl); (case c5 => decide); (case kB => exact locs rfl); (case c2 => exact rfl); (case c3 => exact rfl); (case c4 => exact rfl))
  intro g' L' h' hg' hs' F' N' B' X' T'
  dsimp only [List.reverse, List.reverseAux, bmap, List.length] at F' ⊢
  k_fold
  (repeat' (first | (k_unfold; (try dsimp only)) | ((fail_if_success (with_reducible first | refine stop_at [76] (by decide) ?_ | refine stop_st (by decide) ?_ | refine stop_bl (by decide) ?_ | refine stop_lc ?_ | refine stop_jp ?_ | show LCg.CompSrc _ _ _ _ _ _ _ _ _ _ _ _ _ _ | show LCt.CompSrcT _ _ _ _ _ _ _ _ _ _ _ _ _ _ _)); (first | (k_here; (with_reducible show wpAny _ _ (subscriptTail _ _ (Value.ref _) (Value.int _ _)) _ _ _); (with_unfolding_all refine' item_litK ?k1 ?k2 ?k3 ?k4 ?_ ?k6; (case k1 => is_list); (case k2 => omega); (case k3 => omega); (case k4 => exact at_nat (by with_reducible assumption) (by omega)); (case k6 => with_unfolding_all rfl); k_whole)) | walk1 | (dsimp only; first | walk1 | (k_unfold; (try dsimp only)))))))
  exact hQ _ _ (kp_of N hg' F' N' fun p hp _ => hp)
set_option maxHeartbeats 4000000 in
theorem spot_ok
    (C : Cx w s.heap A₀ base h₀ cs outer L m mean mg mb) (N : News h₀ L s.heap [(rd, instObj 258 dxr), (dxr, rdDict k r p d tp td), (r, PySem.W.listOf vs.toArray n), (q, tupObj wd sp t1 t2)]) (hq : vs[p]? = some (.ref q)) (hp : p < 100000) (hd : dp + 3 < recursionLimit) (hu : un + 10 < cLine)
    (hQ : ∀ h' tk', Kp [] s.heap h' → Q (.int sp t2) { s with heap := h', toks := tk' }) :
    wpAny (model Challenge.rw_rg0116_01.row.prog w) (ktrTop dp un gd cn cs L a ccd cll outer) (call (.ref 173) [.ref rd]) Q E s := by
  refine wpAny_call ?_
  with_unfolding_all refine' enter (binds := [("self", .ref rd)]) ?kC ?kN ?k6 ?k7 ?k8 ?k9 ?kB ?_ ?c2 ?c3 ?c4 ?c5 ?eb ?es
  k_dflt ((case kC => assumption); (case kN => assumption); (case k6 => k_is); (case eb => (conv => lhs; whnf)); (case es => (conv => lhs; whnf)); (case k7 => k_is); (case k8 => first | exact room0 (by assumption) | omega); (case k9 => exact BindsTo.of_eq rfl); (case c5 => decide); (case kB => exact locs rfl); (case c2 => exact rfl); (case c3 => exact rfl); (case c4 => exact rfl))
  intro g' L' h' hg' hs' F' N' B' X' T'
  dsimp only [List.reverse, List.reverseAux, bmap, List.length] at F' ⊢
  k_fold
  (repeat' (first | (k_unfold; (try dsimp only)) | ((fail_if_success (with_reducible first | refine stop_at [76] (by decide) ?_ | refine stop_st (by decide) ?_ | refine stop_bl (by decide) ?_ | refine stop_lc ?_ | refine stop_jp ?_ | show LCg.CompSrc _ _ _ _ _ _ _ _ _ _ _ _ _ _ | show LCt.CompSrcT _ _ _ _ _ _ _ _ _ _ _ _ _ _ _)); (first | (k_here; (with_reducible show wpAny _ _ (subscriptTail _ _ (Value.ref _) (Value.int _ _)) _ _ _); (with_unfolding_all refine' item_litK ?k1 ?k2 ?k3 ?k4 ?_ ?k6; (case k1 => is_list); (case k2 => omega); (case k3 => omega); (case k4 => exact at_nat (by with_reducible assumption) (by omega)); (case k6 => with_unfolding_all rfl); k_whole)) | walk1 | (dsimp only; first | walk1 | (k_unfold; (try dsimp only)))))))
  exact hQ _ _ (kp_of N hg' F' N' fun p hp _ => hp)
set_option maxHeartbeats 4000000 in
theorem take_ok
    (C : Cx w s.heap A₀ base h₀ cs outer L m mean mg mb) (N : News h₀ L s.heap [(rd, instObj 258 dxr), (dxr, rdDict k r p d tp td), (r, PySem.W.listOf vs.toArray n), (q, tupObj wd sp t1 t2)]) (hq : vs[p]? = some (.ref q)) (hp : p < 100000) (hd : dp + 3 < recursionLimit) (hu : un + 10 < cLine)
    (n1 : rd ≠ dxr) (n2 : r ≠ dxr) (n3 : q ≠ dxr)
    (hQ : ∀ h' tk' tp', Kp [dxr] s.heap h' → h'.get? dxr = some (rdDict k r (p + 1 : Nat) d tp' td) → Q (.str wd t1) { s with heap := h', toks := tk' }) :
    wpAny (model Challenge.rw_rg0116_01.row.prog w) (ktrTop dp un gd cn cs L a ccd cll outer) (call (.ref 180) [.ref rd]) Q E s := by
  refine wpAny_call ?_
  with_unfolding_all refine' enter (binds := [("self", .ref rd)]) ?kC ?kN ?k6 ?k7 ?k8 ?k9 ?kB ?_ ?c2 ?c3 ?c4 ?c5 ?eb ?es
  k_dflt ((case kC => assumption); (case kN => assumption); (case k6 => k_is); (case eb => (conv => lhs; whnf)); (case es => (conv => lhs; whnf)); (case k7 => k_is); (case k8 => first | exact room0 (by assumption) | omega); (case k9 => exact BindsTo.of_eq rfl); (case c5 => decide); (case kB => exact locs rfl); (case c2 => exact rfl); (case c3 => exact rfl); (case c4 => exact rfl))
  intro g' L' h' hg' hs' F' N' B' X' T'
  dsimp only [List.reverse, List.reverseAux, bmap, List.length] at F' ⊢
  k_fold
  (repeat' (first | (k_unfold; (try dsimp only)) | ((fail_if_success (with_reducible first | refine stop_at [76] (by decide) ?_ | refine stop_st (by decide) ?_ | refine stop_bl (by decide) ?_ | refine stop_lc ?_ | refine stop_jp ?_ | show LCg.CompSrc _ _ _ _ _ _ _ _ _ _ _ _ _ _ | show LCt.CompSrcT _ _ _ _ _ _ _ _ _ _ _ _ _ _ _)); (first | (k_here; (with_reducible show wpAny _ _ (subscriptTail _ _ (Value.ref _) (Value.int _ _)) _ _ _); (with_unfolding_all refine' item_litK ?k1 ?k2 ?k3 ?k4 ?_ ?k6; (case k1 => is_list); (case k2 => omega); (case k3 => omega); (case k4 => exact at_nat (by with_reducible assumption) (by omega)); (case k6 => with_unfolding_all rfl); k_whole)) | walk1 | (dsimp only; first | walk1 | (k_unfold; (try dsimp only)))))))
  rename Fr g' _ _ _ => F2
  rename News g' _ _ [_, (_, dictOf _ _), _, _] => N2
  exact hQ _ _ _ (kp_of N hg' F2 N2 (rd_sub rfl)) (N2 _ (.tail _ (.head _))).1
end
section
variable {h₀ h h' : Heap} {L : Addr} {rd dxr r q : Addr} {k : RK} {p d p' d' : Nat} {tp td tp' td' : Tok} {vs : List Value} {n : Nat} {pre tl : List (Addr × Obj)} {ws : List (PySem.Str × Int)} {wd : PySem.Str} {sp : Int} {t1 t2 : Tok}
theorem news_rd (R : RdOk rd dxr r vs tl ws) (hpre : ∀ x ∈ pre, x.1 ≠ dxr) (N : News h₀ L h (pre ++ rdL rd dxr r k p d tp td vs n tl)) (kp : Kp [dxr] h h') (hd : h'.get? dxr = some (rdDict k r p' d' tp' td')) :
    News h₀ L h' (pre ++ rdL rd dxr r k p' d' tp' td' vs n tl) := fun x hx => by
  have keep : ∀ y ∈ pre ++ rdL rd dxr r k p d tp td vs n tl, y.1 ≠ dxr → h'.get? y.1 = some y.2 ∧ y.1 ≠ L ∧ h₀.get? y.1 = none := fun y hy ne => ⟨kp _ _ (by simpa using ne) (N y hy).1, (N y hy).2⟩
  have Nd := N (dxr, rdDict k r p d tp td) (List.mem_append_right _ (.tail _ (.head _)))
  rcases List.mem_append.mp hx with hx | hx
  · exact keep x (List.mem_append_left _ hx) (hpre x hx)
  rcases List.mem_cons.mp hx with rfl | hx
  · exact keep (rd, instObj 258 dxr) (List.mem_append_right _ (.head _)) R.n1
  rcases List.mem_cons.mp hx with rfl | hx
  · exact ⟨hd, Nd.2⟩
  rcases List.mem_cons.mp hx with rfl | hx
  · exact keep (r, PySem.W.listOf vs.toArray n) (List.mem_append_right _ (.tail _ (.tail _ (.head _)))) R.n2
  · exact keep x (List.mem_append_right _ (.tail _ (.tail _ (.tail _ hx)))) (R.n3 x hx)
theorem news_four (N : News h₀ L h (pre ++ rdL rd dxr r k p d tp td vs n tl)) (hq : (q, tupObj wd sp t1 t2) ∈ tl) : News h₀ L h [(rd, instObj 258 dxr), (dxr, rdDict k r p d tp td), (r, PySem.W.listOf vs.toArray n), (q, tupObj wd sp t1 t2)] := fun x hx => by
  simp only [List.mem_cons, List.not_mem_nil, or_false] at hx
  rcases hx with rfl | rfl | rfl | rfl
  · exact N _ (List.mem_append_right _ (.head _))
  · exact N _ (List.mem_append_right _ (.tail _ (.head _)))
  · exact N _ (List.mem_append_right _ (.tail _ (.tail _ (.head _))))
  · exact N _ (List.mem_append_right _ (.tail _ (.tail _ (.tail _ hq))))
end
section
variable {w : World} {A₀ : Around} {s : Shared} {base h₀ : Heap} {outer : List Env} {L a : Addr} {m : PySem.Str → Option Value} {mean : ExcName → Option Value} {mg mb : PySem.Str → Option Value} {Q : Value → Shared → Prop} {E : Value → Shared → Prop} {dp un : Nat} {gd : Option (List Code)} {cn : PySem.Str} {cs : Scope} {ccd : Value} {cll : List (PySem.Str × Addr)}
  {rd dxr r q : Addr} {k : RK} {p d : Nat} {tp td : Tok} {vs : List Value} {n : Nat} {pre tl : List (Addr × Obj)} {ws : List (PySem.Str × Int)} {wd : PySem.Str} {sp : Int} {t1 t2 : Tok}
theorem word_use (B : Below A₀ base outer h₀) (F : Fr h₀ L s.heap m) (X : (Mine.hd.heap_39 w.params).In h₀) (T : Top Mine.hd.view_39 (looseW Mine.hd.view_39 []) mean mg mb h₀) (hk : cs.kind = .function)
    (R : RdOk rd dxr r vs tl ws) (N : News h₀ L s.heap (pre ++ rdL rd dxr r k p d tp td vs n tl)) (hw : ws[p]? = some (wd, sp)) (hd : dp + 3 < recursionLimit) (hu : un + 10 < cLine)
    (h : ∀ h' tk' t, Fr h₀ L h' m → News h₀ L h' (pre ++ rdL rd dxr r k p d tp td vs n tl) → Q (.str wd t) { s with heap := h', toks := tk' }) :
    wpAny (model Challenge.rw_rg0116_01.row.prog w) (ktrTop dp un gd cn cs L a ccd cll outer) (call (.ref 166) [.ref rd]) Q E s := by
  obtain ⟨q, t1, t2, hv, hq⟩ := R.T.at hw
  have hp : p < ws.length := (List.getElem?_eq_some_iff.mp hw).1
  have sm := R.sm
  exact word_ok ⟨B, F, X, T, hk⟩ (news_four N hq) hv (by omega) hd hu fun h' tk' kp => h h' tk' t1 (F.keeps (kp_nil kp)) (N.grown (kp_nil kp))
theorem spot_use (B : Below A₀ base outer h₀) (F : Fr h₀ L s.heap m) (X : (Mine.hd.heap_39 w.params).In h₀) (T : Top Mine.hd.view_39 (looseW Mine.hd.view_39 []) mean mg mb h₀) (hk : cs.kind = .function)
    (R : RdOk rd dxr r vs tl ws) (N : News h₀ L s.heap (pre ++ rdL rd dxr r k p d tp td vs n tl)) (hw : ws[p]? = some (wd, sp)) (hd : dp + 3 < recursionLimit) (hu : un + 10 < cLine)
    (h : ∀ h' tk' t, Fr h₀ L h' m → News h₀ L h' (pre ++ rdL rd dxr r k p d tp td vs n tl) → Q (.int sp t) { s with heap := h', toks := tk' }) :
    wpAny (model Challenge.rw_rg0116_01.row.prog w) (ktrTop dp un gd cn cs L a ccd cll outer) (call (.ref 173) [.ref rd]) Q E s := by
  obtain ⟨q, t1, t2, hv, hq⟩ := R.T.at hw
  have hp : p < ws.length := (List.getElem?_eq_some_iff.mp hw).1
  have sm := R.sm
  exact spot_ok ⟨B, F, X, T, hk⟩ (news_four N hq) hv (by omega) hd hu fun h' tk' kp => h h' tk' t2 (F.keeps (kp_nil kp)) (N.grown (kp_nil kp))
theorem take_use (B : Below A₀ base outer h₀) (F : Fr h₀ L s.heap m) (X : (Mine.hd.heap_39 w.params).In h₀) (T : Top Mine.hd.view_39 (looseW Mine.hd.view_39 []) mean mg mb h₀) (hk : cs.kind = .function)
    (R : RdOk rd dxr r vs tl ws) (hpre : ∀ x ∈ pre, x.1 ≠ dxr) (N : News h₀ L s.heap (pre ++ rdL rd dxr r k p d tp td vs n tl)) (hw : ws[p]? = some (wd, sp)) (hd : dp + 3 < recursionLimit) (hu : un + 10 < cLine)
    (h : ∀ h' tk' t tp', Fr h₀ L h' m → News h₀ L h' (pre ++ rdL rd dxr r k (p + 1) d tp' td vs n tl) → Q (.str wd t) { s with heap := h', toks := tk' }) :
    wpAny (model Challenge.rw_rg0116_01.row.prog w) (ktrTop dp un gd cn cs L a ccd cll outer) (call (.ref 180) [.ref rd]) Q E s := by
  obtain ⟨q, t1, t2, hv, hq⟩ := R.T.at hw
  have hp : p < ws.length := (List.getElem?_eq_some_iff.mp hw).1
  have sm := R.sm
  have Nd := N (dxr, rdDict k r p d tp td) (List.mem_append_right _ (.tail _ (.head _)))
  exact take_ok ⟨B, F, X, T, hk⟩ (news_four N hq) hv (by omega) hd hu R.n1 R.n2 (R.n3 _ hq) fun h' tk' tp' kp hd' => h h' tk' t1 tp' (kp_fr F kp (by simpa using Ne.symm Nd.2.1) (by simpa using Nd.2.2)) (news_rd R hpre N kp hd')
end
/- Want -/
theorem freshWant : True := by
  w_top off
  trivial
local macro_rules | `(tactic| tb_start) => `(tactic| ((rename News _ _ _ _ => N'); (dsimp only [rdL, List.nil_append] at N'); k_sweep))
theorem want_len {x : PySem.Str} (h : x.length ≤ 2000) : (Str.empty ++ x ++ (" is wanted" : PySem.Str)).length ≤ sizeLine := by
  have h1 : (" is wanted" : PySem.Str).length = 10 := by decide +kernel
  rw [Str.length_append, Str.length_append, sizeLine_eq, h1]
  have h2 : (Str.empty : PySem.Str).length = 0 := rfl
  omega
theorem rdl_sub {rd dxr r : Addr} {k : RK} {p d p' d' : Nat} {tp td tp' td' : Tok} {vs : List Value} {n : Nat} {tl : List (Addr × Obj)} {S : List Addr} (hS : S = [dxr]) : ∀ x ∈ rdL rd dxr r k p d tp td vs n tl, x.1 ∉ S → x ∈ rdL rd dxr r k p' d' tp' td' vs n tl := fun x hx nx => by
  subst hS
  simp only [rdL, List.mem_cons, List.not_mem_nil, or_false] at hx nx ⊢
  rcases hx with rfl | rfl | h
  · exact .inl rfl
  · exact absurd rfl nx
  · exact .inr (.inr h)
theorem fresh_frame {hc g h : Heap} {L' : Addr} {m : PySem.Str → Option Value} {news : List (Addr × Obj)} (hg : ∀ b o, b ∉ news.map (·.1) → hc.get? b = some o → g.get? b = some o) (F : Fr g L' h m) (N : News g L' h news) : hc.get? L' = none := by
  cases z : hc.get? L' with
  | none => rfl
  | some o =>
    by_cases hb : L' ∈ news.map (·.1)
    · obtain ⟨p, hp, e⟩ := List.mem_map.mp hb
      exact absurd e (N p hp).2.1
    · have := hg _ _ hb z
      rw [kts_self F] at this
      cases this
section
variable {M : Model} {A A' : Around} {E : Value → Shared → Prop} {s : Shared} {base g hc hm : Heap} {env env' : Env} {outer : List Env} {L L' e a0 dx : Addr} {m : PySem.Str → Option Value} {od : Obj} {i : Int} {ti : Tok} {Q : Unit → Shared → Prop}
theorem thrown_leave2 {qual : PySem.Str} {scope : Scope} {f : Addr} {cdv : Value} (B : Below A base (env' :: outer) g) (hL : env'.frame = some L) (kp : Kp [] hc hm) (nL' : hc.get? L' = none) (F : Fr g L' s.heap m) (km : Kp [] hm s.heap)
    (N : News g L' s.heap [(e, exT a0 dx .none), (dx, od)]) (ne : hm.get? e = none) (nd : hm.get? dx = none) (hde : dx ≠ e) (ho : lookIn "spot" od = some (some (.int i ti)))
    (hA : A'.frames = some (envOf qual scope L' f cdv :: env' :: outer))
    (h : ∀ h', Thrown (L :: outer.filterMap (·.frame)) hc h' e i → Q () { s with heap := h' }) (hk : scope.kind = .function) :
    wpAny M A' (leaving (envOf qual scope L' f cdv) (.ref e)) Q E s := by
  have K' := B.push (name := qual) (scope := scope) (a := f) (cd := cdv) F hk
  have hfs : (envOf qual scope L' f cdv :: env' :: outer).filterMap (·.frame) = L' :: L :: outer.filterMap (·.frame) := by
    simp only [List.filterMap_cons, hL]
    rfl
  have Ne := N _ (.head _)
  have Nd := N _ (.tail _ (.head _))
  have ka : Kp [] hc s.heap := kp.trans km
  refine tf_leave_first (base := base) (L := L') (fs := L' :: L :: outer.filterMap (·.frame)) hA K'.frames rfl hfs Ne.1 fun h' T u hn hTe he ht => ?_
  have no : ∀ b, hm.get? b = none → hc.get? b = none := fun b q => by
    cases z : hc.get? b with
    | none => rfl
    | some o => rw [kp b o (by simp) z] at q; cases q
  have nT : hc.get? T = none := by
    cases z : hc.get? T with
    | none => rfl
    | some o => rw [ka _ _ (by simp) z] at hn; cases hn
  have nle : ∀ b o, hc.get? b = some o → b ≠ e := fun b o q z => by rw [z, no _ ne] at q; cases q
  have nlL : ∀ b o, hc.get? b = some o → b ≠ L' := fun b o q z => by rw [z, nL'] at q; cases q
  have hdF : dx ∉ L' :: L :: outer.filterMap (·.frame) := fun hm => by
    rcases List.mem_cons.mp hm with z | z
    · exact Nd.2.1 z
    · have hm2 : dx ∈ (env' :: outer).filterMap (·.frame) := by
        simp only [List.filterMap_cons, hL]
        exact z
      obtain ⟨_, o2, ho2, _⟩ := B.frames.mem hm2
      rw [Nd.2.2] at ho2
      cases ho2
  refine h h' ⟨⟨fun b o _ nf q => ?_, fun b o _ q => ?_⟩, no _ ne, a0, dx, T, od, ti, no _ nd, nT, hde, hTe, fun z => ?_, he, u.keep dx od (by simpa using hde) hdF Nd.1, ht, ho⟩
  · refine u.keep b o (by simpa using nle b o q) ?_ (ka b o (by simp) q)
    simp only [List.mem_cons, not_or] at nf ⊢
    exact ⟨nlL b o q, nf⟩
  · exact u.fram b o (by simpa using nle b o q) (ka b o (by simp) q)
  · have := Nd.1
    rw [z, hn] at this
    cases this
end
section
variable {w : World} {A₀ : Around} {s : Shared} {base h₀ : Heap} {outer : List Env} {L a : Addr} {m : PySem.Str → Option Value} {mean : ExcName → Option Value} {mg mb : PySem.Str → Option Value} {Q : Value → Shared → Prop} {E : Value → Shared → Prop} {dp un : Nat} {gd : Option (List Code)} {cn : PySem.Str} {cs : Scope} {ccd : Value} {cll : List (PySem.Str × Addr)}
  {rd dxr r q : Addr} {k : RK} {p d : Nat} {tp td : Tok} {vs : List Value} {n : Nat} {pre tl : List (Addr × Obj)} {ws : List (PySem.Str × Int)} {wd : PySem.Str} {sp : Int} {t1 t2 : Tok}
set_option maxHeartbeats 4000000 in
theorem want_ok {x : PySem.Str} {tx : Tok}
    (C : Cx w s.heap A₀ base h₀ cs outer L m mean mg mb) (R : RdOk rd dxr r vs tl ws) (N : News h₀ L s.heap (rdL rd dxr r k p d tp td vs n tl)) (hw : ws[p]? = some (wd, sp)) (hx : x.length ≤ 2000) (hne : x ≠ "") (hd : dp + 30 < recursionLimit) (hu : un + 100 < cLine)
    (hQ : wd = x → ∀ h' tk' tp', Kp [dxr] s.heap h' → h'.get? dxr = some (rdDict k r (p + 1 : Nat) d tp' td) → Q .none { s with heap := h', toks := tk' })
    (hE : wd ≠ x → ∀ e h' tk', Thrown (L :: outer.filterMap (·.frame)) s.heap h' e sp → E (.ref e) { s with heap := h', toks := tk' }) :
    wpAny (model Challenge.rw_rg0116_01.row.prog w) (ktrTop dp un gd cn cs L a ccd cll outer) (call (.ref 187) [.ref rd, .str x tx]) Q E s := by
  refine wpAny_call ?_
  with_unfolding_all refine' enter (binds := [("self", .ref rd), ("word", .str x tx)]) ?kC ?kN ?k6 ?k7 ?k8 ?k9 ?kB ?_ ?c2 ?c3 ?c4 ?c5 ?eb ?es
  k_dflt ((case kC => assumption); (case kN => assumption); (case k6 => k_is); (case eb => (conv => lhs; whnf)); (case es => (conv => lhs; whnf)); (case k7 => k_is); (case k8 => first | exact room0 (by assumption) | omega); (case k9 => exact BindsTo.of_eq rfl); (case c5 => decide); (case kB => exact locs rfl); (case c2 => exact rfl); (case c3 => exact rfl); (case c4 => exact rfl))
  intro g' L' h' hg' hs' F' N' B' X' T'
  dsimp only [List.reverse, List.reverseAux, bmap, List.length] at F' ⊢
  dsimp only [rdL] at N'
  k_fold
  (repeat' (first | (k_unfold; (try dsimp only)) | ((fail_if_success (with_reducible first | refine stop_at [76] (by decide) ?_ | refine stop_st (by decide) ?_ | refine stop_bl (by decide) ?_ | refine stop_lc ?_ | refine stop_jp ?_ | show LCg.CompSrc _ _ _ _ _ _ _ _ _ _ _ _ _ _ | show LCt.CompSrcT _ _ _ _ _ _ _ _ _ _ _ _ _ _ _)); (first | ((with_reducible refine stop_cr ?_); first | (k_here; (with_reducible show wpAny _ _ (call (Value.ref 180) _) _ _ _); k_dflt (refine' take_use (pre := []) ?B ?F ?X ?T ?hk ?R ?P ?N ?hw ?d ?u ?_; (case B => k_asm); (case F => k_asm); (case X => k_asm); (case T => k_asm); (case hk => exact rfl); (case R => assumption); (case P => simp); (case N => k_asm); (case hw => assumption); (case d => first | exact room2 (by assumption) (by exact rfl) | exact room1 (by assumption) (by exact rfl) | omega | (dsimp only [ktrTop]; omega)); (case u => first | exact room2 (by assumption) (by exact rfl) | exact room1 (by assumption) (by exact rfl) | omega | (dsimp only [ktrTop]; omega))); intro _ _ _ _ _ _; tb_start) | (k_here; (with_reducible show wpAny _ _ (call (Value.ref 173) _) _ _ _); k_dflt (refine' spot_use (pre := []) ?B ?F ?X ?T ?hk ?R ?N ?hw ?d ?u ?_; (case B => k_asm); (case F => k_asm); (case X => k_asm); (case T => k_asm); (case hk => exact rfl); (case R => assumption); (case N => k_asm); (case hw => assumption); (case d => first | exact room2 (by assumption) (by exact rfl) | exact room1 (by assumption) (by exact rfl) | omega | (dsimp only [ktrTop]; omega)); (case u => first | exact room2 (by assumption) (by exact rfl) | exact room1 (by assumption) (by exact rfl) | omega | (dsimp only [ktrTop]; omega))); intro _ _ _ _ _; tb_start) | (k_here; (with_reducible show wpAny _ _ (call (Value.ref 166) _) _ _ _); k_dflt (refine' word_use (pre := []) ?B ?F ?X ?T ?hk ?R ?N ?hw ?d ?u ?_; (case B => k_asm); (case F => k_asm); (case X => k_asm); (case T => k_asm); (case hk => exact rfl); (case R => assumption); (case N => k_asm); (case hw => assumption); (case d => first | exact room2 (by assumption) (by exact rfl) | exact room1 (by assumption) (by exact rfl) | omega | (dsimp only [ktrTop]; omega)); (case u => first | exact room2 (by assumption) (by exact rfl) | exact room1 (by assumption) (by exact rfl) | omega | (dsimp only [ktrTop]; omega))); intro _ _ _ _ _; tb_start)) | walk1 | (dsimp only; first | walk1 | (k_unfold; (try dsimp only)))))))
  · refine tf_raise rfl ?_
    (repeat' (first | (k_unfold; (try dsimp only)) | ((fail_if_success (with_reducible first | refine stop_at [76] (by decide) ?_ | refine stop_st (by decide) ?_ | refine stop_bl (by decide) ?_ | refine stop_lc ?_ | refine stop_jp ?_ | show LCg.CompSrc _ _ _ _ _ _ _ _ _ _ _ _ _ _ | show LCt.CompSrcT _ _ _ _ _ _ _ _ _ _ _ _ _ _ _)); (first | ((with_reducible refine stop_cr ?_); first | (k_here; (with_reducible show wpAny _ _ (call (Value.ref 180) _) _ _ _); k_dflt (refine' take_use (pre := []) ?B ?F ?X ?T ?hk ?R ?P ?N ?hw ?d ?u ?_; (case B => k_asm); (case F => k_asm); (case X => k_asm); (case T => k_asm); (case hk => exact rfl); (case R => assumption); (case P => simp); (case N => k_asm); (case hw => assumption); (case d => first | exact room2 (by assumption) (by exact rfl) | exact room1 (by assumption) (by exact rfl) | omega | (dsimp only [ktrTop]; omega)); (case u => first | exact room2 (by assumption) (by exact rfl) | exact room1 (by assumption) (by exact rfl) | omega | (dsimp only [ktrTop]; omega))); intro _ _ _ _ _ _; tb_start) | (k_here; (with_reducible show wpAny _ _ (call (Value.ref 173) _) _ _ _); k_dflt (refine' spot_use (pre := []) ?B ?F ?X ?T ?hk ?R ?N ?hw ?d ?u ?_; (case B => k_asm); (case F => k_asm); (case X => k_asm); (case T => k_asm); (case hk => exact rfl); (case R => assumption); (case N => k_asm); (case hw => assumption); (case d => first | exact room2 (by assumption) (by exact rfl) | exact room1 (by assumption) (by exact rfl) | omega | (dsimp only [ktrTop]; omega)); (case u => first | exact room2 (by assumption) (by exact rfl) | exact room1 (by assumption) (by exact rfl) | omega | (dsimp only [ktrTop]; omega))); intro _ _ _ _ _; tb_start) | (k_here; (with_reducible show wpAny _ _ (call (Value.ref 166) _) _ _ _); k_dflt (refine' word_use (pre := []) ?B ?F ?X ?T ?hk ?R ?N ?hw ?d ?u ?_; (case B => k_asm); (case F => k_asm); (case X => k_asm); (case T => k_asm); (case hk => exact rfl); (case R => assumption); (case N => k_asm); (case hw => assumption); (case d => first | exact room2 (by assumption) (by exact rfl) | exact room1 (by assumption) (by exact rfl) | omega | (dsimp only [ktrTop]; omega)); (case u => first | exact room2 (by assumption) (by exact rfl) | exact room1 (by assumption) (by exact rfl) | omega | (dsimp only [ktrTop]; omega))); intro _ _ _ _ _; tb_start)) | walk1 | (dsimp only; first | walk1 | (k_unfold; (try dsimp only)))))))
    · refine joinParts_nilE ?_
      refine joinParts_nil ?_ ?_
      rotate_left
      · with_reducible exact want_len hx
      (repeat' (first | (k_unfold; (try dsimp only)) | ((fail_if_success (with_reducible first | refine stop_at [76] (by decide) ?_ | refine stop_st (by decide) ?_ | refine stop_bl (by decide) ?_ | refine stop_lc ?_ | refine stop_jp ?_ | show LCg.CompSrc _ _ _ _ _ _ _ _ _ _ _ _ _ _ | show LCt.CompSrcT _ _ _ _ _ _ _ _ _ _ _ _ _ _ _)); (first | ((with_reducible refine stop_cr ?_); first | (k_here; (with_reducible show wpAny _ _ (call (Value.ref 180) _) _ _ _); k_dflt (refine' take_use (pre := []) ?B ?F ?X ?T ?hk ?R ?P ?N ?hw ?d ?u ?_; (case B => k_asm); (case F => k_asm); (case X => k_asm); (case T => k_asm); (case hk => exact rfl); (case R => assumption); (case P => simp); (case N => k_asm); (case hw => assumption); (case d => first | exact room2 (by assumption) (by exact rfl) | exact room1 (by assumption) (by exact rfl) | omega | (dsimp only [ktrTop]; omega)); (case u => first | exact room2 (by assumption) (by exact rfl) | exact room1 (by assumption) (by exact rfl) | omega | (dsimp only [ktrTop]; omega))); intro _ _ _ _ _ _; tb_start) | (k_here; (with_reducible show wpAny _ _ (call (Value.ref 173) _) _ _ _); k_dflt (refine' spot_use (pre := []) ?B ?F ?X ?T ?hk ?R ?N ?hw ?d ?u ?_; (case B => k_asm); (case F => k_asm); (case X => k_asm); (case T => k_asm); (case hk => exact rfl); (case R => assumption); (case N => k_asm); (case hw => assumption); (case d => first | exact room2 (by assumption) (by exact rfl) | exact room1 (by assumption) (by exact rfl) | omega | (dsimp only [ktrTop]; omega)); (case u => first | exact room2 (by assumption) (by exact rfl) | exact room1 (by assumption) (by exact rfl) | omega | (dsimp only [ktrTop]; omega))); intro _ _ _ _ _; tb_start) | (k_here; (with_reducible show wpAny _ _ (call (Value.ref 166) _) _ _ _); k_dflt (refine' word_use (pre := []) ?B ?F ?X ?T ?hk ?R ?N ?hw ?d ?u ?_; (case B => k_asm); (case F => k_asm); (case X => k_asm); (case T => k_asm); (case hk => exact rfl); (case R => assumption); (case N => k_asm); (case hw => assumption); (case d => first | exact room2 (by assumption) (by exact rfl) | exact room1 (by assumption) (by exact rfl) | omega | (dsimp only [ktrTop]; omega)); (case u => first | exact room2 (by assumption) (by exact rfl) | exact room1 (by assumption) (by exact rfl) | omega | (dsimp only [ktrTop]; omega))); intro _ _ _ _ _; tb_start)) | walk1 | (dsimp only; first | walk1 | (k_unfold; (try dsimp only)))))))
      rename Fr g' _ _ _ => F2
      rename News g' _ _ _ => N2
      rename (wd != x) = true => hne2
      k_dflt (refine' fault_ok _ _ _ _ ⟨?kB, ?kF, ?kX, ?kT, ?kk⟩ ?kd ?ku ?_; (case kB => k_asm); (case kF => k_asm); (case kX => k_asm); (case kT => k_asm); (case kk => exact rfl); (case kd => dsimp only [ktrTop]; omega); (case ku => dsimp only [ktrTop]; omega))
      intro e dx h6 tk6 hw6 tw6 hs6 ts6 a06 k6 F6 N6 ne6 nd6 hde6
      refine ⟨e, a06, dx, rfl, X'.keeps F6.keep, (N6 _ (.head _)).1, ?_⟩
      k_unfold
      refine thrown_leave2 (hc := s.heap) B' rfl (kp_of N hg' F2 N2 (fun p hp _ => hp)) (fresh_frame hg' F2 N2) F6 k6 N6 ne6 nd6 hde6 rfl rfl (fun h7 th => ?_) rfl
      exact hE (by simpa using hne2) e h7 _ th
    · rename (x != _) = false => hz
      exact absurd (by simpa using hz) hne
  · rename Fr g' _ _ _ => F2
    rename News g' _ _ _ => N2
    rename (wd != x) = false => hne2
    exact hQ (by simpa using hne2) _ _ _ (kp_of N hg' F2 N2 (rdl_sub rfl)) (N2 _ (.tail _ (.head _))).1
  · rename (x != _) = false => hz
    exact absurd (by simpa using hz) hne
end
/- Op -/
theorem freshOp : True := by
  w_top off
  trivial
theorem rdl_sub' {rd dxr r : Addr} {o1 o2 o3 o2' : Obj} {tl : List (Addr × Obj)} {S : List Addr} (hS : S = [dxr]) : ∀ x ∈ (rd, o1) :: (dxr, o2) :: (r, o3) :: tl, x.1 ∉ S → x ∈ (rd, o1) :: (dxr, o2') :: (r, o3) :: tl := fun x hx nx => by
  subst hS
  simp only [List.mem_cons, List.not_mem_nil, or_false] at hx nx ⊢
  rcases hx with rfl | rfl | h
  · exact .inl rfl
  · exact absurd rfl nx
  · exact .inr (.inr h)
section
variable {w : World} {A₀ : Around} {s : Shared} {base h₀ : Heap} {outer : List Env} {L a : Addr} {m : PySem.Str → Option Value} {mean : ExcName → Option Value} {mg mb : PySem.Str → Option Value} {Q : Value → Shared → Prop} {E : Value → Shared → Prop} {dp un : Nat} {gd : Option (List Code)} {cn : PySem.Str} {cs : Scope} {ccd : Value} {cll : List (PySem.Str × Addr)}
  {rd dxr r q : Addr} {k : RK} {p d : Nat} {tp td : Tok} {vs : List Value} {n : Nat} {pre tl : List (Addr × Obj)} {ws : List (PySem.Str × Int)} {wd : PySem.Str} {sp : Int} {t1 t2 : Tok}
set_option maxHeartbeats 4000000 in
theorem op_ok
    (C : Cx w s.heap A₀ base h₀ cs outer L m mean mg mb) (R : RdOk rd dxr r vs tl ws) (N : News h₀ L s.heap (rdL rd dxr r k p d tp td vs n tl)) (hw : ws[p]? = some (wd, sp)) (hd : dp + 30 < recursionLimit) (hu : un + 100 < cLine)
    (hQ : isOp wd = true → ∀ h' tk' t tp', Kp [dxr] s.heap h' → h'.get? dxr = some (rdDict k r (p + 1 : Nat) d tp' td) → Q (.str wd t) { s with heap := h', toks := tk' })
    (hE : isOp wd = false → ∀ e h' tk', Thrown (L :: outer.filterMap (·.frame)) s.heap h' e sp → E (.ref e) { s with heap := h', toks := tk' }) :
    wpAny (model Challenge.rw_rg0116_01.row.prog w) (ktrTop dp un gd cn cs L a ccd cll outer) (call (.ref 194) [.ref rd]) Q E s := by
  have wlen : wd.length ≤ 1000 := R.ln _ (List.mem_of_getElem? hw)
  refine wpAny_call ?_
  with_unfolding_all refine' enter (binds := [("self", .ref rd)]) ?kC ?kN ?k6 ?k7 ?k8 ?k9 ?kB ?_ ?c2 ?c3 ?c4 ?c5 ?eb ?es
  k_dflt ((case kC => assumption); (case kN => assumption); (case k6 => k_is); (case eb => (conv => lhs; whnf)); (case es => (conv => lhs; whnf)); (case k7 => k_is); (case k8 => first | exact room0 (by assumption) | omega); (case k9 => exact BindsTo.of_eq rfl); (case c5 => decide); (case kB => exact locs rfl); (case c2 => exact rfl); (case c3 => exact rfl); (case c4 => exact rfl))
  intro g' L' h' hg' hs' F' N' B' X' T'
  dsimp only [List.reverse, List.reverseAux, bmap, List.length] at F' ⊢
  dsimp only [rdL] at N'
  k_fold
  (repeat' (first | (k_unfold; (try dsimp only)) | ((fail_if_success (with_reducible first | refine stop_at [76] (by decide) ?_ | refine stop_st (by decide) ?_ | refine stop_bl (by decide) ?_ | refine stop_lc ?_ | refine stop_jp ?_ | show LCg.CompSrc _ _ _ _ _ _ _ _ _ _ _ _ _ _ | show LCt.CompSrcT _ _ _ _ _ _ _ _ _ _ _ _ _ _ _)); (first | ((with_reducible refine stop_cr ?_); first | (k_here; (with_reducible show wpAny _ _ (call (Value.ref 95) _) _ _ _); k_dflt (refine' isop_use ?B ?F ?X ?T ?hk ?N ?l ?d ?u ?_; (case B => k_asm); (case F => k_asm); (case X => k_asm); (case T => k_asm); (case hk => exact rfl); (case N => k_asm); (case l => (first | assumption | exact Nat.le_of_ble_eq_true rfl | omega)); (case d => first | exact room2 (by assumption) (by exact rfl) | exact room1 (by assumption) (by exact rfl) | omega | (dsimp only [ktrTop]; omega)); (case u => first | exact room2 (by assumption) (by exact rfl) | exact room1 (by assumption) (by exact rfl) | omega | (dsimp only [ktrTop]; omega))); intro _ _ _ _; (try k_sweep)) | (k_here; (with_reducible show wpAny _ _ (call (Value.ref 180) _) _ _ _); k_dflt (refine' take_use (pre := []) ?B ?F ?X ?T ?hk ?R ?P ?N ?hw ?d ?u ?_; (case B => k_asm); (case F => k_asm); (case X => k_asm); (case T => k_asm); (case hk => exact rfl); (case R => assumption); (case P => simp); (case N => k_asm); (case hw => assumption); (case d => first | exact room2 (by assumption) (by exact rfl) | exact room1 (by assumption) (by exact rfl) | omega | (dsimp only [ktrTop]; omega)); (case u => first | exact room2 (by assumption) (by exact rfl) | exact room1 (by assumption) (by exact rfl) | omega | (dsimp only [ktrTop]; omega))); intro _ _ _ _ _ _; tb_start) | (k_here; (with_reducible show wpAny _ _ (call (Value.ref 173) _) _ _ _); k_dflt (refine' spot_use (pre := []) ?B ?F ?X ?T ?hk ?R ?N ?hw ?d ?u ?_; (case B => k_asm); (case F => k_asm); (case X => k_asm); (case T => k_asm); (case hk => exact rfl); (case R => assumption); (case N => k_asm); (case hw => assumption); (case d => first | exact room2 (by assumption) (by exact rfl) | exact room1 (by assumption) (by exact rfl) | omega | (dsimp only [ktrTop]; omega)); (case u => first | exact room2 (by assumption) (by exact rfl) | exact room1 (by assumption) (by exact rfl) | omega | (dsimp only [ktrTop]; omega))); intro _ _ _ _ _; tb_start) | (k_here; (with_reducible show wpAny _ _ (call (Value.ref 166) _) _ _ _); k_dflt (refine' word_use (pre := []) ?B ?F ?X ?T ?hk ?R ?N ?hw ?d ?u ?_; (case B => k_asm); (case F => k_asm); (case X => k_asm); (case T => k_asm); (case hk => exact rfl); (case R => assumption); (case N => k_asm); (case hw => assumption); (case d => first | exact room2 (by assumption) (by exact rfl) | exact room1 (by assumption) (by exact rfl) | omega | (dsimp only [ktrTop]; omega)); (case u => first | exact room2 (by assumption) (by exact rfl) | exact room1 (by assumption) (by exact rfl) | omega | (dsimp only [ktrTop]; omega))); intro _ _ _ _ _; tb_start)) | walk1 | (dsimp only; first | walk1 | (k_unfold; (try dsimp only)))))))
  · rename Fr g' _ _ _ => F2
    rename News g' _ _ _ => N2
    rename isOp wd = true => ho
    exact hQ ho _ _ _ _ (kp_of N hg' F2 N2 (rdl_sub rfl)) (N2 _ (.tail _ (.head _))).1
  · refine tf_raise rfl ?_
    (repeat' (first | (k_unfold; (try dsimp only)) | ((fail_if_success (with_reducible first | refine stop_at [76] (by decide) ?_ | refine stop_st (by decide) ?_ | refine stop_bl (by decide) ?_ | refine stop_lc ?_ | refine stop_jp ?_ | show LCg.CompSrc _ _ _ _ _ _ _ _ _ _ _ _ _ _ | show LCt.CompSrcT _ _ _ _ _ _ _ _ _ _ _ _ _ _ _)); (first | ((with_reducible refine stop_cr ?_); first | (k_here; (with_reducible show wpAny _ _ (call (Value.ref 95) _) _ _ _); k_dflt (refine' isop_use ?B ?F ?X ?T ?hk ?N ?l ?d ?u ?_; (case B => k_asm); (case F => k_asm); (case X => k_asm); (case T => k_asm); (case hk => exact rfl); (case N => k_asm); (case l => (first | assumption | exact Nat.le_of_ble_eq_true rfl | omega)); (case d => first | exact room2 (by assumption) (by exact rfl) | exact room1 (by assumption) (by exact rfl) | omega | (dsimp only [ktrTop]; omega)); (case u => first | exact room2 (by assumption) (by exact rfl) | exact room1 (by assumption) (by exact rfl) | omega | (dsimp only [ktrTop]; omega))); intro _ _ _ _; (try k_sweep)) | (k_here; (with_reducible show wpAny _ _ (call (Value.ref 180) _) _ _ _); k_dflt (refine' take_use (pre := []) ?B ?F ?X ?T ?hk ?R ?P ?N ?hw ?d ?u ?_; (case B => k_asm); (case F => k_asm); (case X => k_asm); (case T => k_asm); (case hk => exact rfl); (case R => assumption); (case P => simp); (case N => k_asm); (case hw => assumption); (case d => first | exact room2 (by assumption) (by exact rfl) | exact room1 (by assumption) (by exact rfl) | omega | (dsimp only [ktrTop]; omega)); (case u => first | exact room2 (by assumption) (by exact rfl) | exact room1 (by assumption) (by exact rfl) | omega | (dsimp only [ktrTop]; omega))); intro _ _ _ _ _ _; tb_start) | (k_here; (with_reducible show wpAny _ _ (call (Value.ref 173) _) _ _ _); k_dflt (refine' spot_use (pre := []) ?B ?F ?X ?T ?hk ?R ?N ?hw ?d ?u ?_; (case B => k_asm); (case F => k_asm); (case X => k_asm); (case T => k_asm); (case hk => exact rfl); (case R => assumption); (case N => k_asm); (case hw => assumption); (case d => first | exact room2 (by assumption) (by exact rfl) | exact room1 (by assumption) (by exact rfl) | omega | (dsimp only [ktrTop]; omega)); (case u => first | exact room2 (by assumption) (by exact rfl) | exact room1 (by assumption) (by exact rfl) | omega | (dsimp only [ktrTop]; omega))); intro _ _ _ _ _; tb_start) | (k_here; (with_reducible show wpAny _ _ (call (Value.ref 166) _) _ _ _); k_dflt (refine' word_use (pre := []) ?B ?F ?X ?T ?hk ?R ?N ?hw ?d ?u ?_; (case B => k_asm); (case F => k_asm); (case X => k_asm); (case T => k_asm); (case hk => exact rfl); (case R => assumption); (case N => k_asm); (case hw => assumption); (case d => first | exact room2 (by assumption) (by exact rfl) | exact room1 (by assumption) (by exact rfl) | omega | (dsimp only [ktrTop]; omega)); (case u => first | exact room2 (by assumption) (by exact rfl) | exact room1 (by assumption) (by exact rfl) | omega | (dsimp only [ktrTop]; omega))); intro _ _ _ _ _; tb_start)) | walk1 | (dsimp only; first | walk1 | (k_unfold; (try dsimp only)))))))
    rename Fr g' _ _ _ => F2
    rename News g' _ _ _ => N2
    rename isOp wd = false => ho
    k_dflt (refine' fault_ok _ _ _ _ ⟨?kB, ?kF, ?kX, ?kT, ?kk⟩ ?kd ?ku ?_; (case kB => k_asm); (case kF => k_asm); (case kX => k_asm); (case kT => k_asm); (case kk => exact rfl); (case kd => dsimp only [ktrTop]; omega); (case ku => dsimp only [ktrTop]; omega))
    intro e dx h6 tk6 hw6 tw6 hs6 ts6 a06 k6 F6 N6 ne6 nd6 hde6
    refine ⟨e, a06, dx, rfl, X'.keeps F6.keep, (N6 _ (.head _)).1, ?_⟩
    k_unfold
    refine thrown_leave2 (hc := s.heap) B' rfl (kp_of N hg' F2 N2 (fun p hp _ => hp)) (fresh_frame hg' F2 N2) F6 k6 N6 ne6 nd6 hde6 rfl rfl (fun h7 th => ?_) rfl
    exact hE ho e h7 _ th
theorem op_use (B : Below A₀ base outer h₀) (F : Fr h₀ L s.heap m) (X : (Mine.hd.heap_39 w.params).In h₀) (T : Top Mine.hd.view_39 (looseW Mine.hd.view_39 []) mean mg mb h₀) (hk : cs.kind = .function)
    (R : RdOk rd dxr r vs tl ws) (hpre : ∀ x ∈ pre, x.1 ≠ dxr) (N : News h₀ L s.heap (pre ++ rdL rd dxr r k p d tp td vs n tl)) (hw : ws[p]? = some (wd, sp)) (ho : isOp wd = true) (hd : dp + 30 < recursionLimit) (hu : un + 100 < cLine)
    (h : ∀ h' tk' t tp', Fr h₀ L h' m → News h₀ L h' (pre ++ rdL rd dxr r k (p + 1) d tp' td vs n tl) → Q (.str wd t) { s with heap := h', toks := tk' }) :
    wpAny (model Challenge.rw_rg0116_01.row.prog w) (ktrTop dp un gd cn cs L a ccd cll outer) (call (.ref 194) [.ref rd]) Q E s := by
  have Nd := N (dxr, rdDict k r p d tp td) (List.mem_append_right _ (.tail _ (.head _)))
  exact op_ok ⟨B, F, X, T, hk⟩ R (fun x hx => N x (List.mem_append_right _ hx)) hw hd hu (fun _ h' tk' t tp' kp hd' => h h' tk' t tp' (kp_fr F kp (by simpa using Ne.symm Nd.2.1) (by simpa using Nd.2.2)) (news_rd R hpre N kp hd')) (fun q => by rw [ho] at q; cases q)
theorem want_use {x : PySem.Str} {tx : Tok} (B : Below A₀ base outer h₀) (F : Fr h₀ L s.heap m) (X : (Mine.hd.heap_39 w.params).In h₀) (T : Top Mine.hd.view_39 (looseW Mine.hd.view_39 []) mean mg mb h₀) (hk : cs.kind = .function)
    (R : RdOk rd dxr r vs tl ws) (hpre : ∀ x ∈ pre, x.1 ≠ dxr) (N : News h₀ L s.heap (pre ++ rdL rd dxr r k p d tp td vs n tl)) (hw : ws[p]? = some (x, sp)) (hne : x ≠ "") (hd : dp + 30 < recursionLimit) (hu : un + 100 < cLine)
    (h : ∀ h' tk' tp', Fr h₀ L h' m → News h₀ L h' (pre ++ rdL rd dxr r k (p + 1) d tp' td vs n tl) → Q .none { s with heap := h', toks := tk' }) :
    wpAny (model Challenge.rw_rg0116_01.row.prog w) (ktrTop dp un gd cn cs L a ccd cll outer) (call (.ref 187) [.ref rd, .str x tx]) Q E s := by
  have Nd := N (dxr, rdDict k r p d tp td) (List.mem_append_right _ (.tail _ (.head _)))
  have := R.ln _ (List.mem_of_getElem? hw)
  exact want_ok ⟨B, F, X, T, hk⟩ R (fun x hx => N x (List.mem_append_right _ hx)) hw (by dsimp only at this; omega) hne hd hu (fun _ h' tk' tp' kp hd' => h h' tk' tp' (kp_fr F kp (by simpa using Ne.symm Nd.2.1) (by simpa using Nd.2.2)) (news_rd R hpre N kp hd')) (fun q => absurd rfl q)
end
section
variable {w : World} {A₀ : Around} {s : Shared} {base h₀ : Heap} {outer : List Env} {L a : Addr} {m : PySem.Str → Option Value} {mean : ExcName → Option Value} {mg mb : PySem.Str → Option Value} {Q : Value → Shared → Prop} {E : Value → Shared → Prop} {dp un : Nat} {gd : Option (List Code)} {cn : PySem.Str} {cs : Scope} {ccd : Value} {cll : List (PySem.Str × Addr)}
  {rd dxr r q : Addr} {k : RK} {p d : Nat} {tp td : Tok} {vs : List Value} {n : Nat} {pre tl : List (Addr × Obj)} {ws : List (PySem.Str × Int)} {wd : PySem.Str} {sp : Int} {t1 t2 : Tok}
set_option maxHeartbeats 4000000 in
theorem begin_ok
    (C : Cx w s.heap A₀ base h₀ cs outer L m mean mg mb) (R : RdOk rd dxr r vs tl ws) (N : News h₀ L s.heap (rdL rd dxr r k p d tp td vs n tl)) (hw : ws[p]? = some (("(" : PySem.Str), sp)) (hdp : d < 30) (hd : dp + 40 < recursionLimit) (hu : un + 150 < cLine)
    (hQ : ∀ h' tk' tp' td', Kp [dxr] s.heap h' → h'.get? dxr = some (rdDict k r (p + 1 : Nat) (d + 1 : Nat) tp' td') → Q .none { s with heap := h', toks := tk' }) :
    wpAny (model Challenge.rw_rg0116_01.row.prog w) (ktrTop dp un gd cn cs L a ccd cll outer) (call (.ref 201) [.ref rd]) Q E s := by
  have n1 := R.n1
  have n2 := R.n2
  have n3 := R.n3
  refine wpAny_call ?_
  with_unfolding_all refine' enter (binds := [("self", .ref rd)]) ?kC ?kN ?k6 ?k7 ?k8 ?k9 ?kB ?_ ?c2 ?c3 ?c4 ?c5 ?eb ?es
  k_dflt ((case kC => assumption); (case kN => assumption); (case k6 => k_is); (case eb => (conv => lhs; whnf)); (case es => (conv => lhs; whnf)); (case k7 => k_is); (case k8 => first | exact room0 (by assumption) | omega); (case k9 => exact BindsTo.of_eq rfl); (case c5 => decide); (case kB => exact locs rfl); (case c2 => exact rfl); (case c3 => exact rfl); (case c4 => exact rfl))
  intro g' L' h' hg' hs' F' N' B' X' T'
  dsimp only [List.reverse, List.reverseAux, bmap, List.length] at F' ⊢
  dsimp only [rdL] at N'
  k_fold
  (repeat' (first | (k_unfold; (try dsimp only)) | ((fail_if_success (with_reducible first | refine stop_at [76] (by decide) ?_ | refine stop_st (by decide) ?_ | refine stop_bl (by decide) ?_ | refine stop_lc ?_ | refine stop_jp ?_ | show LCg.CompSrc _ _ _ _ _ _ _ _ _ _ _ _ _ _ | show LCt.CompSrcT _ _ _ _ _ _ _ _ _ _ _ _ _ _ _)); (first | ((with_reducible refine stop_cr ?_); first | (k_here; (with_reducible show wpAny _ _ (call (Value.ref 187) _) _ _ _); k_dflt (refine' want_use (pre := []) ?B ?F ?X ?T ?hk ?R ?P ?N ?hw ?ne ?d ?u ?_; (case B => k_asm); (case F => k_asm); (case X => k_asm); (case T => k_asm); (case hk => exact rfl); (case R => assumption); (case P => simp); (case N => k_asm); (case hw => assumption); (case ne => decide); (case d => first | exact room2 (by assumption) (by exact rfl) | exact room1 (by assumption) (by exact rfl) | omega | (dsimp only [ktrTop]; omega)); (case u => first | exact room2 (by assumption) (by exact rfl) | exact room1 (by assumption) (by exact rfl) | omega | (dsimp only [ktrTop]; omega))); intro _ _ _ _ _; tb_start) | (k_here; (with_reducible show wpAny _ _ (call (Value.ref 95) _) _ _ _); k_dflt (refine' isop_use ?B ?F ?X ?T ?hk ?N ?l ?d ?u ?_; (case B => k_asm); (case F => k_asm); (case X => k_asm); (case T => k_asm); (case hk => exact rfl); (case N => k_asm); (case l => (first | assumption | exact Nat.le_of_ble_eq_true rfl | omega)); (case d => first | exact room2 (by assumption) (by exact rfl) | exact room1 (by assumption) (by exact rfl) | omega | (dsimp only [ktrTop]; omega)); (case u => first | exact room2 (by assumption) (by exact rfl) | exact room1 (by assumption) (by exact rfl) | omega | (dsimp only [ktrTop]; omega))); intro _ _ _ _; (try k_sweep)) | (k_here; (with_reducible show wpAny _ _ (call (Value.ref 180) _) _ _ _); k_dflt (refine' take_use (pre := []) ?B ?F ?X ?T ?hk ?R ?P ?N ?hw ?d ?u ?_; (case B => k_asm); (case F => k_asm); (case X => k_asm); (case T => k_asm); (case hk => exact rfl); (case R => assumption); (case P => simp); (case N => k_asm); (case hw => assumption); (case d => first | exact room2 (by assumption) (by exact rfl) | exact room1 (by assumption) (by exact rfl) | omega | (dsimp only [ktrTop]; omega)); (case u => first | exact room2 (by assumption) (by exact rfl) | exact room1 (by assumption) (by exact rfl) | omega | (dsimp only [ktrTop]; omega))); intro _ _ _ _ _ _; tb_start) | (k_here; (with_reducible show wpAny _ _ (call (Value.ref 173) _) _ _ _); k_dflt (refine' spot_use (pre := []) ?B ?F ?X ?T ?hk ?R ?N ?hw ?d ?u ?_; (case B => k_asm); (case F => k_asm); (case X => k_asm); (case T => k_asm); (case hk => exact rfl); (case R => assumption); (case N => k_asm); (case hw => assumption); (case d => first | exact room2 (by assumption) (by exact rfl) | exact room1 (by assumption) (by exact rfl) | omega | (dsimp only [ktrTop]; omega)); (case u => first | exact room2 (by assumption) (by exact rfl) | exact room1 (by assumption) (by exact rfl) | omega | (dsimp only [ktrTop]; omega))); intro _ _ _ _ _; tb_start) | (k_here; (with_reducible show wpAny _ _ (call (Value.ref 166) _) _ _ _); k_dflt (refine' word_use (pre := []) ?B ?F ?X ?T ?hk ?R ?N ?hw ?d ?u ?_; (case B => k_asm); (case F => k_asm); (case X => k_asm); (case T => k_asm); (case hk => exact rfl); (case R => assumption); (case N => k_asm); (case hw => assumption); (case d => first | exact room2 (by assumption) (by exact rfl) | exact room1 (by assumption) (by exact rfl) | omega | (dsimp only [ktrTop]; omega)); (case u => first | exact room2 (by assumption) (by exact rfl) | exact room1 (by assumption) (by exact rfl) | omega | (dsimp only [ktrTop]; omega))); intro _ _ _ _ _; tb_start)) | walk1 | (dsimp only; first | walk1 | (k_unfold; (try dsimp only)))))))
  rename Fr g' _ _ _ => F2
  rename News g' _ _ ((_, _) :: (_, dictOf _ _) :: _) => N2
  exact hQ _ _ _ _ (kp_of N hg' F2 N2 (rdl_sub' rfl)) (N2 _ (.tail _ (.head _))).1
set_option maxHeartbeats 4000000 in
theorem close_ok
    (C : Cx w s.heap A₀ base h₀ cs outer L m mean mg mb) (R : RdOk rd dxr r vs tl ws) (N : News h₀ L s.heap (rdL rd dxr r k p (d + 1) tp td vs n tl)) (hw : ws[p]? = some ((")" : PySem.Str), sp)) (hdp : d < 30) (hd : dp + 40 < recursionLimit) (hu : un + 150 < cLine)
    (hQ : ∀ h' tk' tp' td', Kp [dxr] s.heap h' → h'.get? dxr = some (rdDict k r (p + 1 : Nat) (d : Nat) tp' td') → Q .none { s with heap := h', toks := tk' }) :
    wpAny (model Challenge.rw_rg0116_01.row.prog w) (ktrTop dp un gd cn cs L a ccd cll outer) (call (.ref 208) [.ref rd]) Q E s := by
  have n1 := R.n1
  have n2 := R.n2
  have n3 := R.n3
  refine wpAny_call ?_
  with_unfolding_all refine' enter (binds := [("self", .ref rd)]) ?kC ?kN ?k6 ?k7 ?k8 ?k9 ?kB ?_ ?c2 ?c3 ?c4 ?c5 ?eb ?es
  k_dflt ((case kC => assumption); (case kN => assumption); (case k6 => k_is); (case eb => (conv => lhs; whnf)); (case es => (conv => lhs; whnf)); (case k7 => k_is); (case k8 => first | exact room0 (by assumption) | omega); (case k9 => exact BindsTo.of_eq rfl); (case c5 => decide); (case kB => exact locs rfl); (case c2 => exact rfl); (case c3 => exact rfl); (case c4 => exact rfl))
  intro g' L' h' hg' hs' F' N' B' X' T'
  dsimp only [List.reverse, List.reverseAux, bmap, List.length] at F' ⊢
  dsimp only [rdL] at N'
  k_fold
  (repeat' (first | (k_unfold; (try dsimp only)) | ((fail_if_success (with_reducible first | refine stop_at [76] (by decide) ?_ | refine stop_st (by decide) ?_ | refine stop_bl (by decide) ?_ | refine stop_lc ?_ | refine stop_jp ?_ | show LCg.CompSrc _ _ _ _ _ _ _ _ _ _ _ _ _ _ | show LCt.CompSrcT _ _ _ _ _ _ _ _ _ _ _ _ _ _ _)); (first | ((with_reducible refine stop_cr ?_); first | (k_here; (with_reducible show wpAny _ _ (call (Value.ref 187) _) _ _ _); k_dflt (refine' want_use (pre := []) ?B ?F ?X ?T ?hk ?R ?P ?N ?hw ?ne ?d ?u ?_; (case B => k_asm); (case F => k_asm); (case X => k_asm); (case T => k_asm); (case hk => exact rfl); (case R => assumption); (case P => simp); (case N => k_asm); (case hw => assumption); (case ne => decide); (case d => first | exact room2 (by assumption) (by exact rfl) | exact room1 (by assumption) (by exact rfl) | omega | (dsimp only [ktrTop]; omega)); (case u => first | exact room2 (by assumption) (by exact rfl) | exact room1 (by assumption) (by exact rfl) | omega | (dsimp only [ktrTop]; omega))); intro _ _ _ _ _; tb_start) | (k_here; (with_reducible show wpAny _ _ (call (Value.ref 95) _) _ _ _); k_dflt (refine' isop_use ?B ?F ?X ?T ?hk ?N ?l ?d ?u ?_; (case B => k_asm); (case F => k_asm); (case X => k_asm); (case T => k_asm); (case hk => exact rfl); (case N => k_asm); (case l => (first | assumption | exact Nat.le_of_ble_eq_true rfl | omega)); (case d => first | exact room2 (by assumption) (by exact rfl) | exact room1 (by assumption) (by exact rfl) | omega | (dsimp only [ktrTop]; omega)); (case u => first | exact room2 (by assumption) (by exact rfl) | exact room1 (by assumption) (by exact rfl) | omega | (dsimp only [ktrTop]; omega))); intro _ _ _ _; (try k_sweep)) | (k_here; (with_reducible show wpAny _ _ (call (Value.ref 180) _) _ _ _); k_dflt (refine' take_use (pre := []) ?B ?F ?X ?T ?hk ?R ?P ?N ?hw ?d ?u ?_; (case B => k_asm); (case F => k_asm); (case X => k_asm); (case T => k_asm); (case hk => exact rfl); (case R => assumption); (case P => simp); (case N => k_asm); (case hw => assumption); (case d => first | exact room2 (by assumption) (by exact rfl) | exact room1 (by assumption) (by exact rfl) | omega | (dsimp only [ktrTop]; omega)); (case u => first | exact room2 (by assumption) (by exact rfl) | exact room1 (by assumption) (by exact rfl) | omega | (dsimp only [ktrTop]; omega))); intro _ _ _ _ _ _; tb_start) | (k_here; (with_reducible show wpAny _ _ (call (Value.ref 173) _) _ _ _); k_dflt (refine' spot_use (pre := []) ?B ?F ?X ?T ?hk ?R ?N ?hw ?d ?u ?_; (case B => k_asm); (case F => k_asm); (case X => k_asm); (case T => k_asm); (case hk => exact rfl); (case R => assumption); (case N => k_asm); (case hw => assumption); (case d => first | exact room2 (by assumption) (by exact rfl) | exact room1 (by assumption) (by exact rfl) | omega | (dsimp only [ktrTop]; omega)); (case u => first | exact room2 (by assumption) (by exact rfl) | exact room1 (by assumption) (by exact rfl) | omega | (dsimp only [ktrTop]; omega))); intro _ _ _ _ _; tb_start) | (k_here; (with_reducible show wpAny _ _ (call (Value.ref 166) _) _ _ _); k_dflt (refine' word_use (pre := []) ?B ?F ?X ?T ?hk ?R ?N ?hw ?d ?u ?_; (case B => k_asm); (case F => k_asm); (case X => k_asm); (case T => k_asm); (case hk => exact rfl); (case R => assumption); (case N => k_asm); (case hw => assumption); (case d => first | exact room2 (by assumption) (by exact rfl) | exact room1 (by assumption) (by exact rfl) | omega | (dsimp only [ktrTop]; omega)); (case u => first | exact room2 (by assumption) (by exact rfl) | exact room1 (by assumption) (by exact rfl) | omega | (dsimp only [ktrTop]; omega))); intro _ _ _ _ _; tb_start)) | walk1 | (dsimp only; first | walk1 | (k_unfold; (try dsimp only)))))))
  rename Fr g' _ _ _ => F2
  rename News g' _ _ ((_, _) :: (_, dictOf _ _) :: _) => N2
  have e : ((d + 1 : Nat) : Int) - 1 = (d : Int) := by omega
  rw [e] at N2
  exact hQ _ _ _ _ (kp_of N hg' F2 N2 (rdl_sub' rfl)) (N2 _ (.tail _ (.head _))).1
theorem begin_use (B : Below A₀ base outer h₀) (F : Fr h₀ L s.heap m) (X : (Mine.hd.heap_39 w.params).In h₀) (T : Top Mine.hd.view_39 (looseW Mine.hd.view_39 []) mean mg mb h₀) (hk : cs.kind = .function)
    (R : RdOk rd dxr r vs tl ws) (hpre : ∀ x ∈ pre, x.1 ≠ dxr) (N : News h₀ L s.heap (pre ++ rdL rd dxr r k p d tp td vs n tl)) (hw : ws[p]? = some (("(" : PySem.Str), sp)) (hdp : d < 30) (hd : dp + 40 < recursionLimit) (hu : un + 150 < cLine)
    (h : ∀ h' tk' tp' td', Fr h₀ L h' m → News h₀ L h' (pre ++ rdL rd dxr r k (p + 1) (d + 1) tp' td' vs n tl) → Q .none { s with heap := h', toks := tk' }) :
    wpAny (model Challenge.rw_rg0116_01.row.prog w) (ktrTop dp un gd cn cs L a ccd cll outer) (call (.ref 201) [.ref rd]) Q E s := by
  have Nd := N (dxr, rdDict k r p d tp td) (List.mem_append_right _ (.tail _ (.head _)))
  exact begin_ok ⟨B, F, X, T, hk⟩ R (fun x hx => N x (List.mem_append_right _ hx)) hw hdp hd hu (fun h' tk' tp' td' kp hd' => h h' tk' tp' td' (kp_fr F kp (by simpa using Ne.symm Nd.2.1) (by simpa using Nd.2.2)) (news_rd R hpre N kp hd'))
theorem close_use (B : Below A₀ base outer h₀) (F : Fr h₀ L s.heap m) (X : (Mine.hd.heap_39 w.params).In h₀) (T : Top Mine.hd.view_39 (looseW Mine.hd.view_39 []) mean mg mb h₀) (hk : cs.kind = .function)
    (R : RdOk rd dxr r vs tl ws) (hpre : ∀ x ∈ pre, x.1 ≠ dxr) (N : News h₀ L s.heap (pre ++ rdL rd dxr r k p (d + 1) tp td vs n tl)) (hw : ws[p]? = some ((")" : PySem.Str), sp)) (hdp : d < 30) (hd : dp + 40 < recursionLimit) (hu : un + 150 < cLine)
    (h : ∀ h' tk' tp' td', Fr h₀ L h' m → News h₀ L h' (pre ++ rdL rd dxr r k (p + 1) d tp' td' vs n tl) → Q .none { s with heap := h', toks := tk' }) :
    wpAny (model Challenge.rw_rg0116_01.row.prog w) (ktrTop dp un gd cn cs L a ccd cll outer) (call (.ref 208) [.ref rd]) Q E s := by
  have Nd := N (dxr, rdDict k r p (d + 1 : Nat) tp td) (List.mem_append_right _ (.tail _ (.head _)))
  exact close_ok ⟨B, F, X, T, hk⟩ R (fun x hx => N x (List.mem_append_right _ hx)) hw hdp hd hu (fun h' tk' tp' td' kp hd' => h h' tk' tp' td' (kp_fr F kp (by simpa using Ne.symm Nd.2.1) (by simpa using Nd.2.2)) (news_rd R hpre N kp hd'))
end
/- Term -/
theorem freshTerm : True := by
  w_top off
  trivial
theorem new_of {h g : Heap} {news : List (Addr × Obj)} {D : Addr} (hg : ∀ b o, b ∉ news.map (·.1) → h.get? b = some o → g.get? b = some o) (hn : g.get? D = none) (hlt : ∀ x ∈ news, x.1 ≠ D) : h.get? D = none := by
  cases z : h.get? D with
  | none => rfl
  | some o =>
    have := hg D o (fun hm => by
      obtain ⟨x, hx, e⟩ := List.mem_map.mp hm
      exact hlt x hx e) z
    rw [hn] at this
    cases this
theorem allLt_mem {d : Addr} {l : List (Addr × Obj)} (h : AllLt d l) : ∀ x ∈ l, x.1 < d := by
  induction l with
  | nil => intro x hx; cases hx
  | cons y l ih =>
    intro x hx
    rcases List.mem_cons.mp hx with rfl | hx
    · exact h.1
    · exact ih h.2 x hx
theorem rdl_lt {rd dxr r D : Addr} {o1 o2 o3 : Obj} {tl : List (Addr × Obj)} (h : rd < D ∧ dxr < D ∧ r < D ∧ AllLt D tl) : ∀ x ∈ (rd, o1) :: (dxr, o2) :: (r, o3) :: tl, x.1 ≠ D := fun x hx => by
  obtain ⟨h1, h2, h3, h4⟩ := h
  simp only [List.mem_cons] at hx
  rcases hx with rfl | rfl | rfl | hx
  · exact Nat.ne_of_lt h1
  · exact Nat.ne_of_lt h2
  · exact Nat.ne_of_lt h3
  · exact Nat.ne_of_lt (allLt_mem h4 x hx)
theorem op_ne {o : PySem.Str} (h : isOp o = true) : (o != ("(" : PySem.Str)) = true := by
  rw [bne_iff_ne]
  rintro rfl
  have : isOp ("(" : PySem.Str) = false := by decide +kernel
  rw [this] at h
  cases h
/-- the terms -/
inductive Tm
  | node (o : PySem.Str) (kids : List Tm)
mutual
noncomputable def Tm.toks : Tm → List PySem.Str
  | .node o ks => match ks with
    | [] => [o]
    | t :: r => (("(" : PySem.Str) :: o :: (t.toks ++ Tm.toksL r)) ++ [(")" : PySem.Str)]
noncomputable def Tm.toksL : List Tm → List PySem.Str
  | [] => []
  | t :: r => t.toks ++ Tm.toksL r
end
mutual
noncomputable def Tm.deep : Tm → Nat
  | .node _ ks => match ks with
    | [] => 0
    | t :: r => t.deep + Tm.deepL r + 1
noncomputable def Tm.deepL : List Tm → Nat
  | [] => 0
  | t :: r => t.deep + Tm.deepL r
end
mutual
noncomputable def Tm.ok : Tm → Bool
  | .node o ks => isOp o && Tm.okL ks
noncomputable def Tm.okL : List Tm → Bool
  | [] => true
  | t :: r => t.ok && Tm.okL r
end
noncomputable abbrev tupOf (vs : List Value) : Obj := { cls := .type "tuple", data := .seq vs.toArray }
mutual
inductive TmIn (ex : List (Addr × Obj)) : Value → Tm → Prop
  | node {q : Addr} {o : PySem.Str} {t : Tok} {vs : List Value} {ks : List Tm} : (q, tupOf (.str o t :: vs)) ∈ ex → TmsIn ex vs ks → TmIn ex (.ref q) (.node o ks)
inductive TmsIn (ex : List (Addr × Obj)) : List Value → List Tm → Prop
  | nil : TmsIn ex [] []
  | cons {v : Value} {vs : List Value} {k : Tm} {ks : List Tm} : TmIn ex v k → TmsIn ex vs ks → TmsIn ex (v :: vs) (k :: ks)
end
noncomputable def HasAt (ws : List (PySem.Str × Int)) : Nat → List PySem.Str → Prop
  | _, [] => True
  | p, x :: l => (∃ sp, ws[p]? = some (x, sp)) ∧ HasAt ws (p + 1) l
theorem HasAt.split {ws : List (PySem.Str × Int)} : ∀ {p : Nat} {l l' : List PySem.Str}, HasAt ws p (l ++ l') → HasAt ws p l ∧ HasAt ws (p + l.length) l'
  | _, [], _, h => ⟨trivial, h⟩
  | p, x :: l, l', h => by
    obtain ⟨h1, h2⟩ := HasAt.split (l := l) h.2
    refine ⟨⟨h.1, h1⟩, ?_⟩
    rw [show p + (x :: l).length = p + 1 + l.length by simp; omega]
    exact h2
section
variable {w : World} {A₀ : Around} {s : Shared} {base h₀ : Heap} {outer : List Env} {L a : Addr} {m : PySem.Str → Option Value} {mean : ExcName → Option Value} {mg mb : PySem.Str → Option Value} {Q : Value → Shared → Prop} {E : Value → Shared → Prop} {dp un : Nat} {gd : Option (List Code)} {cn : PySem.Str} {cs : Scope} {ccd : Value} {cll : List (PySem.Str × Addr)}
  {rd dxr r q : Addr} {k : RK} {p d : Nat} {tp td : Tok} {vs : List Value} {n : Nat} {pre tl : List (Addr × Obj)} {ws : List (PySem.Str × Int)} {wd : PySem.Str} {sp : Int} {t1 t2 : Tok}
noncomputable def TermOk (T : Tm) : Prop := ∀ {w : World} {A₀ : Around} {s : Shared} {base h₀ : Heap} {outer : List Env} {L a : Addr} {m : PySem.Str → Option Value} {mean : ExcName → Option Value} {mg mb : PySem.Str → Option Value} {Q : Value → Shared → Prop} {E : Value → Shared → Prop} {dp un : Nat} {gd : Option (List Code)} {cn : PySem.Str} {cs : Scope} {ccd : Value} {cll : List (PySem.Str × Addr)}
  {rd dxr r : Addr} {k : RK} {p d : Nat} {tp td : Tok} {vs : List Value} {n : Nat} {tl : List (Addr × Obj)} {ws : List (PySem.Str × Int)},
  Cx w s.heap A₀ base h₀ cs outer L m mean mg mb → RdOk rd dxr r vs tl ws → News h₀ L s.heap (rdL rd dxr r k p d tp td vs n tl) → HasAt ws p T.toks → T.ok = true → d + T.deep < 30 → dp + 100 + 10 * T.deep < recursionLimit → un + 300 + 30 * T.deep < cLine →
  (∀ h' tk' tp' td' v ex, Kp [dxr] s.heap h' → h'.get? dxr = some (rdDict k r (p + T.toks.length : Nat) d tp' td') → (∀ x ∈ ex, h'.get? x.1 = some x.2 ∧ s.heap.get? x.1 = none) → TmIn ex v T → Q v { s with heap := h', toks := tk' }) →
  wpAny (model Challenge.rw_rg0116_01.row.prog w) (ktrTop dp un gd cn cs L a ccd cll outer) (call (.ref 222) [.ref rd]) Q E s
theorem leaf_fin {g' h2 : Heap} {L' D : Addr} {m' : PySem.Str → Option Value} {o : PySem.Str} {t tp' : Tok} {tk : Nat} (N : News h₀ L s.heap (rdL rd dxr r k p d tp td vs n tl)) (hg' : ∀ b o, b ∉ (rdL rd dxr r k p d tp td vs n tl).map (·.1) → s.heap.get? b = some o → g'.get? b = some o)
    (F2 : Fr g' L' h2 m') (N2 : News g' L' h2 ((D, tupOf [.str o t]) :: rdL rd dxr r k (p + 1) d tp' td vs n tl)) (lt : rd < D ∧ dxr < D ∧ r < D ∧ AllLt D tl)
    (hQ : ∀ h' tk' tp' td' v ex, Kp [dxr] s.heap h' → h'.get? dxr = some (rdDict k r (p + 1 : Nat) d tp' td') → (∀ x ∈ ex, h'.get? x.1 = some x.2 ∧ s.heap.get? x.1 = none) → TmIn ex v (.node o []) → Q v { s with heap := h', toks := tk' }) : Q (.ref D) { s with heap := h2, toks := tk } := by
  refine hQ _ _ _ _ _ [(D, tupOf [.str o t])] (kp_of N hg' F2 N2 (fun x hx nx => .tail _ (rdl_sub rfl x hx nx))) (N2 _ (.tail _ (.tail _ (.head _)))).1 (fun x hx => ?_) (.node (.head _) .nil)
  simp only [List.mem_cons, List.not_mem_nil, or_false] at hx
  subst hx
  exact ⟨(N2 _ (.head _)).1, new_of hg' (N2 _ (.head _)).2.2 (rdl_lt lt)⟩
set_option maxHeartbeats 4000000 in
theorem term_leaf (o : PySem.Str) : TermOk (.node o []) := by
  intro w A₀ s base h₀ outer L a m mean mg mb Q E dp un gd cn cs ccd cll rd dxr r k p d tp td vs n tl ws C R N hat hok hdeep hd hu hQ
  obtain ⟨sp, hw⟩ := hat.1
  have ho : isOp o = true := by
    simp only [Tm.ok, Bool.and_eq_true] at hok
    exact hok.1
  have hne : (o != ("(" : PySem.Str)) = true := op_ne ho
  have n1 := R.n1
  have n2 := R.n2
  have n3 := R.n3
  refine wpAny_call ?_
  with_unfolding_all refine' enter (binds := [("self", .ref rd)]) ?kC ?kN ?k6 ?k7 ?k8 ?k9 ?kB ?_ ?c2 ?c3 ?c4 ?c5 ?eb ?es
  k_dflt ((case kC => assumption); (case kN => assumption); (case k6 => k_is); (case eb => (conv => lhs; whnf)); (case es => (conv => lhs; whnf)); (case k7 => k_is); (case k8 => first | exact room0 (by assumption) | omega); (case k9 => exact BindsTo.of_eq rfl); (case c5 => decide); (case kB => exact locs rfl); (case c2 => exact rfl); (case c3 => exact rfl); (case c4 => exact rfl))
  intro g' L' h' hg' hs' F' N' B' X' T'
  dsimp only [List.reverse, List.reverseAux, bmap, List.length] at F' ⊢
  dsimp only [rdL] at N'
  k_fold
  (repeat' (first | (k_unfold; (try dsimp only)) | ((fail_if_success (with_reducible first | refine stop_at [76, 222] (by decide) ?_ | refine stop_st (by decide) ?_ | refine stop_bl (by decide) ?_ | refine stop_lc ?_ | refine stop_jp ?_ | show LCg.CompSrc _ _ _ _ _ _ _ _ _ _ _ _ _ _ | show LCt.CompSrcT _ _ _ _ _ _ _ _ _ _ _ _ _ _ _)); (first | ((with_reducible refine stop_cr ?_); first | (k_here; (with_reducible show wpAny _ _ (call (Value.ref 208) _) _ _ _); k_dflt (refine' close_use (pre := []) ?B ?F ?X ?T ?hk ?R ?P ?N ?hw ?hdp ?d ?u ?_; (case B => k_asm); (case F => k_asm); (case X => k_asm); (case T => k_asm); (case hk => exact rfl); (case R => assumption); (case P => simp); (case N => k_asm); (case hw => assumption); (case hdp => omega); (case d => first | exact room2 (by assumption) (by exact rfl) | exact room1 (by assumption) (by exact rfl) | omega | (dsimp only [ktrTop]; omega)); (case u => first | exact room2 (by assumption) (by exact rfl) | exact room1 (by assumption) (by exact rfl) | omega | (dsimp only [ktrTop]; omega))); intro _ _ _ _ _ _; tb_start) | (k_here; (with_reducible show wpAny _ _ (call (Value.ref 201) _) _ _ _); k_dflt (refine' begin_use (pre := []) ?B ?F ?X ?T ?hk ?R ?P ?N ?hw ?hdp ?d ?u ?_; (case B => k_asm); (case F => k_asm); (case X => k_asm); (case T => k_asm); (case hk => exact rfl); (case R => assumption); (case P => simp); (case N => k_asm); (case hw => assumption); (case hdp => omega); (case d => first | exact room2 (by assumption) (by exact rfl) | exact room1 (by assumption) (by exact rfl) | omega | (dsimp only [ktrTop]; omega)); (case u => first | exact room2 (by assumption) (by exact rfl) | exact room1 (by assumption) (by exact rfl) | omega | (dsimp only [ktrTop]; omega))); intro _ _ _ _ _ _; tb_start) | (k_here; (with_reducible show wpAny _ _ (call (Value.ref 194) _) _ _ _); k_dflt (refine' op_use (pre := []) ?B ?F ?X ?T ?hk ?R ?P ?N ?hw ?ho ?d ?u ?_; (case B => k_asm); (case F => k_asm); (case X => k_asm); (case T => k_asm); (case hk => exact rfl); (case R => assumption); (case P => simp); (case N => k_asm); (case hw => assumption); (case ho => assumption); (case d => first | exact room2 (by assumption) (by exact rfl) | exact room1 (by assumption) (by exact rfl) | omega | (dsimp only [ktrTop]; omega)); (case u => first | exact room2 (by assumption) (by exact rfl) | exact room1 (by assumption) (by exact rfl) | omega | (dsimp only [ktrTop]; omega))); intro _ _ _ _ _ _; tb_start) | (k_here; (with_reducible show wpAny _ _ (call (Value.ref 187) _) _ _ _); k_dflt (refine' want_use (pre := []) ?B ?F ?X ?T ?hk ?R ?P ?N ?hw ?ne ?d ?u ?_; (case B => k_asm); (case F => k_asm); (case X => k_asm); (case T => k_asm); (case hk => exact rfl); (case R => assumption); (case P => simp); (case N => k_asm); (case hw => assumption); (case ne => decide); (case d => first | exact room2 (by assumption) (by exact rfl) | exact room1 (by assumption) (by exact rfl) | omega | (dsimp only [ktrTop]; omega)); (case u => first | exact room2 (by assumption) (by exact rfl) | exact room1 (by assumption) (by exact rfl) | omega | (dsimp only [ktrTop]; omega))); intro _ _ _ _ _; tb_start) | (k_here; (with_reducible show wpAny _ _ (call (Value.ref 95) _) _ _ _); k_dflt (refine' isop_use ?B ?F ?X ?T ?hk ?N ?l ?d ?u ?_; (case B => k_asm); (case F => k_asm); (case X => k_asm); (case T => k_asm); (case hk => exact rfl); (case N => k_asm); (case l => (first | assumption | exact Nat.le_of_ble_eq_true rfl | omega)); (case d => first | exact room2 (by assumption) (by exact rfl) | exact room1 (by assumption) (by exact rfl) | omega | (dsimp only [ktrTop]; omega)); (case u => first | exact room2 (by assumption) (by exact rfl) | exact room1 (by assumption) (by exact rfl) | omega | (dsimp only [ktrTop]; omega))); intro _ _ _ _; (try k_sweep)) | (k_here; (with_reducible show wpAny _ _ (call (Value.ref 180) _) _ _ _); k_dflt (refine' take_use (pre := []) ?B ?F ?X ?T ?hk ?R ?P ?N ?hw ?d ?u ?_; (case B => k_asm); (case F => k_asm); (case X => k_asm); (case T => k_asm); (case hk => exact rfl); (case R => assumption); (case P => simp); (case N => k_asm); (case hw => assumption); (case d => first | exact room2 (by assumption) (by exact rfl) | exact room1 (by assumption) (by exact rfl) | omega | (dsimp only [ktrTop]; omega)); (case u => first | exact room2 (by assumption) (by exact rfl) | exact room1 (by assumption) (by exact rfl) | omega | (dsimp only [ktrTop]; omega))); intro _ _ _ _ _ _; tb_start) | (k_here; (with_reducible show wpAny _ _ (call (Value.ref 173) _) _ _ _); k_dflt (refine' spot_use (pre := []) ?B ?F ?X ?T ?hk ?R ?N ?hw ?d ?u ?_; (case B => k_asm); (case F => k_asm); (case X => k_asm); (case T => k_asm); (case hk => exact rfl); (case R => assumption); (case N => k_asm); (case hw => assumption); (case d => first | exact room2 (by assumption) (by exact rfl) | exact room1 (by assumption) (by exact rfl) | omega | (dsimp only [ktrTop]; omega)); (case u => first | exact room2 (by assumption) (by exact rfl) | exact room1 (by assumption) (by exact rfl) | omega | (dsimp only [ktrTop]; omega))); intro _ _ _ _ _; tb_start) | (k_here; (with_reducible show wpAny _ _ (call (Value.ref 166) _) _ _ _); k_dflt (refine' word_use (pre := []) ?B ?F ?X ?T ?hk ?R ?N ?hw ?d ?u ?_; (case B => k_asm); (case F => k_asm); (case X => k_asm); (case T => k_asm); (case hk => exact rfl); (case R => assumption); (case N => k_asm); (case hw => assumption); (case d => first | exact room2 (by assumption) (by exact rfl) | exact room1 (by assumption) (by exact rfl) | omega | (dsimp only [ktrTop]; omega)); (case u => first | exact room2 (by assumption) (by exact rfl) | exact room1 (by assumption) (by exact rfl) | omega | (dsimp only [ktrTop]; omega))); intro _ _ _ _ _; tb_start)) | walk1 | (dsimp only; first | walk1 | (k_unfold; (try dsimp only)))))))
  rename Fr g' _ _ _ => F2
  rename News g' _ _ ((_, { cls := _, data := Data.seq _ }) :: _) => N2
  rename _ ∧ _ => lt
  have e : (Tm.node o []).toks.length = 1 := by simp [Tm.toks]
  rw [e] at hQ
  exact leaf_fin (s := s) N hg' F2 N2 lt hQ
end
/- Term2 -/
theorem freshTerm2 : True := by
  w_top off
  trivial
local macro_rules | `(tactic| tb_rel) => `(tactic| ((rename News _ _ _ _ => N'); (dsimp only [rdL, List.nil_append, List.cons_append] at N'); k_sweep))
theorem TmIn.head {ex : List (Addr × Obj)} {v : Value} {T : Tm} (h : TmIn ex v T) : ∃ q, v = .ref q := by
  cases h
  exact ⟨_, rfl⟩
mutual
theorem TmIn.mono {ex ex' : List (Addr × Obj)} (k : ∀ p ∈ ex, p ∈ ex') : ∀ {v : Value} {T : Tm}, TmIn ex v T → TmIn ex' v T
  | _, _, .node h r => .node (k _ h) (TmsIn.mono k r)
theorem TmsIn.mono {ex ex' : List (Addr × Obj)} (k : ∀ p ∈ ex, p ∈ ex') : ∀ {vs : List Value} {ks : List Tm}, TmsIn ex vs ks → TmsIn ex' vs ks
  | _, _, .nil => .nil
  | _, _, .cons h r => .cons (TmIn.mono k h) (TmsIn.mono k r)
end
theorem TmsIn.snoc {ex : List (Addr × Obj)} {v : Value} {k : Tm} (h : TmIn ex v k) : ∀ {vs : List Value} {ks : List Tm}, TmsIn ex vs ks → TmsIn ex (vs ++ [v]) (ks ++ [k])
  | _, _, .nil => .cons h .nil
  | _, _, .cons h' r => .cons h' (TmsIn.snoc h r)
theorem TmsIn.length {ex : List (Addr × Obj)} : ∀ {vs : List Value} {ks : List Tm}, TmsIn ex vs ks → vs.length = ks.length
  | _, _, .nil => rfl
  | _, _, .cons _ r => congrArg (· + 1) r.length
theorem RdOk.grow {rd dxr r : Addr} {vs : List Value} {tl ex : List (Addr × Obj)} {ws : List (PySem.Str × Int)} (R : RdOk rd dxr r vs tl ws) (h : ∀ x ∈ ex, x.1 ≠ dxr) : RdOk rd dxr r vs (ex ++ tl) ws :=
  ⟨R.T.mono fun _ hp => List.mem_append_right _ hp, R.n1, R.n2, fun x hx => (List.mem_append.mp hx).elim (h x) (R.n3 x), R.sm, R.ln⟩
theorem Tm.toks_head : ∀ (T : Tm), T.ok = true → ∃ x l, T.toks = x :: l ∧ x ≠ (")" : PySem.Str) 
  | .node o ks, h => by
    have ho : isOp o = true := by
      simp only [Tm.ok, Bool.and_eq_true] at h
      exact h.1
    cases ks with
    | nil =>
      refine ⟨o, [], by simp [Tm.toks], ?_⟩
      rintro rfl
      have : isOp (")" : PySem.Str) = false := by decide +kernel
      rw [this] at ho
      cases ho
    | cons t r => exact ⟨("(" : PySem.Str), o :: (t.toks ++ Tm.toksL r) ++ [(")" : PySem.Str)], by simp [Tm.toks], by decide +kernel⟩
theorem kp_none {S : List Addr} {h h' : Heap} {b : Addr} (kp : Kp S h h') (hS : ∀ a ∈ S, ∃ o, h'.get? a = some o) (hn : h'.get? b = none) : h.get? b = none := by
  cases z : h.get? b with
  | none => rfl
  | some o =>
    by_cases hb : b ∈ S
    · obtain ⟨o', e⟩ := hS b hb
      rw [hn] at e
      cases e
    · rw [kp b o hb z] at hn
      cases hn
theorem okL_mem : ∀ {ks : List Tm} {t : Tm}, Tm.okL ks = true → t ∈ ks → t.ok = true
  | x :: r, t, h, hm => by
    simp only [Tm.okL, Bool.and_eq_true] at h
    rcases List.mem_cons.mp hm with rfl | hm
    · exact h.1
    · exact okL_mem h.2 hm
theorem deepL_mem : ∀ {ks : List Tm} {t : Tm}, t ∈ ks → t.deep ≤ Tm.deepL ks
  | x :: r, t, hm => by
    simp only [Tm.deepL]
    rcases List.mem_cons.mp hm with rfl | hm
    · omega
    · have := deepL_mem hm
      omega
/-- between two turns: what is read, what is left -/
noncomputable def TInv (s : Shared) (rd dxr r : Addr) (k : RK) (vs : List Value) (n : Nat) (ws : List (PySem.Str × Int)) (d : Nat) (fl : Addr) (v₀ : Value) (T : Tm) (ks : List Tm) (pe : Nat) (tl₀ : List (Addr × Obj)) (m₀ : Nat) (m : PySem.Str → Option Value) (news : List (Addr × Obj)) : Prop :=
  ∃ (done left : List Tm) (xs : List Value) (vals : List Value) (tl ex : List (Addr × Obj)) (tp td : Tok) (c p : Nat),
    ks = done ++ left ∧ m₀ = left.length ∧ news = (fl, PySem.W.listOf xs.toArray c) :: rdL rd dxr r k p (d + 1 : Nat) tp td vs n tl ∧ xs = v₀ :: vals ∧ xs.length ≤ p ∧ RdOk rd dxr r vs tl ws ∧ (∀ x ∈ ex, x ∈ tl) ∧ TmsIn ex vals (T :: done) ∧ (∀ x ∈ ex, s.heap.get? x.1 = none) ∧
    m "self" = some (.ref rd) ∧ m "found" = some (.ref fl) ∧ HasAt ws p (Tm.toksL left ++ [(")" : PySem.Str)]) ∧ p + (Tm.toksL left).length = pe ∧ (∀ x ∈ tl, x.1 ≠ fl) ∧ (∀ x ∈ tl₀, x ∈ tl)
section
variable {w : World} {A₀ : Around} {s : Shared} {base h₀ : Heap} {outer : List Env} {L a : Addr} {m : PySem.Str → Option Value} {mean : ExcName → Option Value} {mg mb : PySem.Str → Option Value} {Q : Value → Shared → Prop} {E : Value → Shared → Prop} {dp un : Nat} {gd : Option (List Code)} {cn : PySem.Str} {cs : Scope} {ccd : Value} {cll : List (PySem.Str × Addr)}
  {rd dxr r q : Addr} {k : RK} {p d : Nat} {tp td : Tok} {vs : List Value} {n : Nat} {pre tl : List (Addr × Obj)} {ws : List (PySem.Str × Int)} {wd : PySem.Str} {sp : Int} {t1 t2 : Tok}
theorem term_use {T : Tm} (TO : TermOk T) (B : Below A₀ base outer h₀) (F : Fr h₀ L s.heap m) (X : (Mine.hd.heap_39 w.params).In h₀) (TT : Top Mine.hd.view_39 (looseW Mine.hd.view_39 []) mean mg mb h₀) (hk : cs.kind = .function)
    (R : RdOk rd dxr r vs tl ws) (hpre : ∀ x ∈ pre, x.1 ≠ dxr) (N : News h₀ L s.heap (pre ++ rdL rd dxr r k p d tp td vs n tl)) (hat : HasAt ws p T.toks) (hok : T.ok = true) (hdeep : d + T.deep < 30) (hd : dp + 100 + 10 * T.deep < recursionLimit) (hu : un + 300 + 30 * T.deep < cLine)
    (h : ∀ h' tk' tp' td' v ex, Fr h₀ L h' m → News h₀ L h' (pre ++ rdL rd dxr r k (p + T.toks.length) d tp' td' vs n (ex ++ tl)) → RdOk rd dxr r vs (ex ++ tl) ws → (∀ x ∈ ex, s.heap.get? x.1 = none) → TmIn ex v T → Q v { s with heap := h', toks := tk' }) :
    wpAny (model Challenge.rw_rg0116_01.row.prog w) (ktrTop dp un gd cn cs L a ccd cll outer) (call (.ref 222) [.ref rd]) Q E s := by
  have Nd := N (dxr, rdDict k r p d tp td) (List.mem_append_right _ (.tail _ (.head _)))
  refine TO ⟨B, F, X, TT, hk⟩ R (fun x hx => N x (List.mem_append_right _ hx)) hat hok hdeep hd hu (fun h' tk' tp' td' v ex kp hd' hex hin => ?_)
  have hne : ∀ x ∈ ex, x.1 ≠ dxr := fun x hx e => by
    have := (hex x hx).2
    rw [e, Nd.1] at this
    cases this
  have N1 := news_rd R hpre N kp hd'
  refine h h' tk' tp' td' v ex (kp_fr F kp (by simpa using Ne.symm Nd.2.1) (by simpa using Nd.2.2)) (fun x hx => ?_) (R.grow hne) (fun x hx => (hex x hx).2) hin
  have key : x ∈ ex ∨ x ∈ pre ++ rdL rd dxr r k (p + T.toks.length) d tp' td' vs n tl := by
    refine all_app (P := fun x => x ∈ ex ∨ x ∈ pre ++ rdL rd dxr r k (p + T.toks.length) d tp' td' vs n tl) (fun x h => .inr (List.mem_append_left _ h)) (all_cons (.inr (List.mem_append_right _ (.head _))) (all_cons (.inr (List.mem_append_right _ (.tail _ (.head _)))) (all_cons (.inr (List.mem_append_right _ (.tail _ (.tail _ (.head _))))) (all_app (fun x h => .inl h) (fun x h => .inr (List.mem_append_right _ (.tail _ (.tail _ (.tail _ h))))))))) x hx
  rcases key with hx | hx
  · refine ⟨(hex x hx).1, fun e => ?_, ?_⟩
    · have h1 := (hex x hx).2
      obtain ⟨o, _, _, ho, _⟩ := F.ns
      rw [e, ho] at h1
      cases h1
    · cases z : h₀.get? x.1 with
      | none => rfl
      | some o => have h1 := F.keep _ _ z; rw [(hex x hx).2] at h1; cases h1
  · exact N1 x hx
end
set_option maxHeartbeats 4000000 in
theorem term_node (o : PySem.Str) (T : Tm) (ks : List Tm) (hT : TermOk T) (hks1 : ∀ t ∈ ks, TermOk t) : TermOk (.node o (T :: ks)) := by
  intro w A₀ s base h₀ outer L a m mean mg mb Q E dp un gd cn cs ccd cll rd dxr r k p d tp td vs n tl ws C R N hat hok hdeep hd hu hQ
  have etok : (Tm.node o (T :: ks)).toks = (("(" : PySem.Str) :: o :: (T.toks ++ Tm.toksL ks)) ++ [(")" : PySem.Str)] := by simp [Tm.toks]
  have edeep : (Tm.node o (T :: ks)).deep = T.deep + Tm.deepL ks + 1 := by simp [Tm.deep]
  rw [edeep] at hdeep hd hu
  have hdr9 : dp + 100 < recursionLimit := by omega
  have hur9 : un + 300 < cLine := by omega
  rw [etok] at hat
  have hat0 := hat
  obtain ⟨hat1, hatE⟩ := hat.split
  obtain ⟨⟨sp1, hw1⟩, ⟨sp2, hw2⟩, hat2⟩ := hat1
  obtain ⟨hatT, hatK⟩ := hat2.split
  have hatK0 : HasAt ws (p + 1 + 1 + T.toks.length) (Tm.toksL ks ++ [(")" : PySem.Str)]) := (HasAt.split (l := ("(" : PySem.Str) :: o :: T.toks) (by simpa only [List.cons_append, List.append_assoc] using hat0)).2 |> fun z => by
    rw [show p + (("(" : PySem.Str) :: o :: T.toks).length = p + 1 + 1 + T.toks.length by simp; omega] at z
    exact z
  have ho : isOp o = true := by
    simp only [Tm.ok, Bool.and_eq_true] at hok
    exact hok.1
  have hokT : T.ok = true := by
    simp only [Tm.ok, Tm.okL, Bool.and_eq_true] at hok
    exact hok.2.1
  have hokK : Tm.okL ks = true := by
    simp only [Tm.ok, Tm.okL, Bool.and_eq_true] at hok
    exact hok.2.2
  have n1 := R.n1
  have n2 := R.n2
  have n3 := R.n3
  refine wpAny_call ?_
  with_unfolding_all refine' enter (binds := [("self", .ref rd)]) ?kC ?kN ?k6 ?k7 ?k8 ?k9 ?kB ?_ ?c2 ?c3 ?c4 ?c5 ?eb ?es
  k_dflt ((case kC => assumption); (case kN => assumption); (case k6 => k_is); (case eb => (conv => lhs; whnf)); (case es => (conv => lhs; whnf)); (case k7 => k_is); (case k8 => first | exact room0 (by assumption) | omega); (case k9 => exact BindsTo.of_eq rfl); (case c5 => decide); (case kB => exact locs rfl); (case c2 => exact rfl); (case c3 => exact rfl); (case c4 => exact rfl))
  intro g' L' h' hg' hs' F' N' B' X' T'
  dsimp only [List.reverse, List.reverseAux, bmap, List.length] at F' ⊢
  dsimp only [rdL] at N'
  k_fold
  (repeat' (first | (k_unfold; (try dsimp only)) | ((fail_if_success (with_reducible first | refine stop_at [76, 222] (by decide) ?_ | refine stop_st (by decide) ?_ | refine stop_bl (by decide) ?_ | refine stop_lc ?_ | refine stop_jp ?_ | show LCg.CompSrc _ _ _ _ _ _ _ _ _ _ _ _ _ _ | show LCt.CompSrcT _ _ _ _ _ _ _ _ _ _ _ _ _ _ _)); (first | ((with_reducible refine stop_cr ?_); first | (k_here; (with_reducible show wpAny _ _ (call (Value.ref 208) _) _ _ _); k_dflt (refine' close_use (pre := [_]) ?B ?F ?X ?T ?hk ?R ?P ?N ?hw ?hdp ?d ?u ?_; (case B => k_asm); (case F => k_asm); (case X => k_asm); (case T => k_asm); (case hk => exact rfl); (case R => assumption); (case N => k_asm); (case P => (intro x hx; simp only [List.mem_singleton] at hx; subst hx; (try dsimp only); exact Ne.symm (by assumption))); (case hw => assumption); (case hdp => omega); (case d => first | exact room2 (by assumption) (by exact rfl) | exact room1 (by assumption) (by exact rfl) | omega | (dsimp only [ktrTop]; omega)); (case u => first | exact room2 (by assumption) (by exact rfl) | exact room1 (by assumption) (by exact rfl) | omega | (dsimp only [ktrTop]; omega))); intro _ _ _ _ _ _; tb_rel) | (k_here; (with_reducible show wpAny _ _ (call (Value.ref 201) _) _ _ _); k_dflt (refine' begin_use (pre := [_]) ?B ?F ?X ?T ?hk ?R ?P ?N ?hw ?hdp ?d ?u ?_; (case B => k_asm); (case F => k_asm); (case X => k_asm); (case T => k_asm); (case hk => exact rfl); (case R => assumption); (case N => k_asm); (case P => (intro x hx; simp only [List.mem_singleton] at hx; subst hx; (try dsimp only); exact Ne.symm (by assumption))); (case hw => assumption); (case hdp => omega); (case d => first | exact room2 (by assumption) (by exact rfl) | exact room1 (by assumption) (by exact rfl) | omega | (dsimp only [ktrTop]; omega)); (case u => first | exact room2 (by assumption) (by exact rfl) | exact room1 (by assumption) (by exact rfl) | omega | (dsimp only [ktrTop]; omega))); intro _ _ _ _ _ _; tb_rel) | (k_here; (with_reducible show wpAny _ _ (call (Value.ref 194) _) _ _ _); k_dflt (refine' op_use (pre := [_]) ?B ?F ?X ?T ?hk ?R ?P ?N ?hw ?ho ?d ?u ?_; (case B => k_asm); (case F => k_asm); (case X => k_asm); (case T => k_asm); (case hk => exact rfl); (case R => assumption); (case N => k_asm); (case P => (intro x hx; simp only [List.mem_singleton] at hx; subst hx; (try dsimp only); exact Ne.symm (by assumption))); (case hw => assumption); (case ho => assumption); (case d => first | exact room2 (by assumption) (by exact rfl) | exact room1 (by assumption) (by exact rfl) | omega | (dsimp only [ktrTop]; omega)); (case u => first | exact room2 (by assumption) (by exact rfl) | exact room1 (by assumption) (by exact rfl) | omega | (dsimp only [ktrTop]; omega))); intro _ _ _ _ _ _; tb_rel) | (k_here; (with_reducible show wpAny _ _ (call (Value.ref 187) _) _ _ _); k_dflt (refine' want_use (pre := [_]) ?B ?F ?X ?T ?hk ?R ?P ?N ?hw ?ne ?d ?u ?_; (case B => k_asm); (case F => k_asm); (case X => k_asm); (case T => k_asm); (case hk => exact rfl); (case R => assumption); (case N => k_asm); (case P => (intro x hx; simp only [List.mem_singleton] at hx; subst hx; (try dsimp only); exact Ne.symm (by assumption))); (case hw => assumption); (case ne => decide); (case d => first | exact room2 (by assumption) (by exact rfl) | exact room1 (by assumption) (by exact rfl) | omega | (dsimp only [ktrTop]; omega)); (case u => first | exact room2 (by assumption) (by exact rfl) | exact room1 (by assumption) (by exact rfl) | omega | (dsimp only [ktrTop]; omega))); intro _ _ _ _ _; tb_rel) | (k_here; (with_reducible show wpAny _ _ (call (Value.ref 180) _) _ _ _); k_dflt (refine' take_use (pre := [_]) ?B ?F ?X ?T ?hk ?R ?P ?N ?hw ?d ?u ?_; (case B => k_asm); (case F => k_asm); (case X => k_asm); (case T => k_asm); (case hk => exact rfl); (case R => assumption); (case N => k_asm); (case P => (intro x hx; simp only [List.mem_singleton] at hx; subst hx; (try dsimp only); exact Ne.symm (by assumption))); (case hw => assumption); (case d => first | exact room2 (by assumption) (by exact rfl) | exact room1 (by assumption) (by exact rfl) | omega | (dsimp only [ktrTop]; omega)); (case u => first | exact room2 (by assumption) (by exact rfl) | exact room1 (by assumption) (by exact rfl) | omega | (dsimp only [ktrTop]; omega))); intro _ _ _ _ _ _; tb_rel) | (k_here; (with_reducible show wpAny _ _ (call (Value.ref 173) _) _ _ _); k_dflt (refine' spot_use (pre := [_]) ?B ?F ?X ?T ?hk ?R ?N ?hw ?d ?u ?_; (case B => k_asm); (case F => k_asm); (case X => k_asm); (case T => k_asm); (case hk => exact rfl); (case R => assumption); (case N => k_asm); (case hw => assumption); (case d => first | exact room2 (by assumption) (by exact rfl) | exact room1 (by assumption) (by exact rfl) | omega | (dsimp only [ktrTop]; omega)); (case u => first | exact room2 (by assumption) (by exact rfl) | exact room1 (by assumption) (by exact rfl) | omega | (dsimp only [ktrTop]; omega))); intro _ _ _ _ _; tb_rel) | (k_here; (with_reducible show wpAny _ _ (call (Value.ref 166) _) _ _ _); k_dflt (refine' word_use (pre := [_]) ?B ?F ?X ?T ?hk ?R ?N ?hw ?d ?u ?_; (case B => k_asm); (case F => k_asm); (case X => k_asm); (case T => k_asm); (case hk => exact rfl); (case R => assumption); (case N => k_asm); (case hw => assumption); (case d => first | exact room2 (by assumption) (by exact rfl) | exact room1 (by assumption) (by exact rfl) | omega | (dsimp only [ktrTop]; omega)); (case u => first | exact room2 (by assumption) (by exact rfl) | exact room1 (by assumption) (by exact rfl) | omega | (dsimp only [ktrTop]; omega))); intro _ _ _ _ _; tb_rel) | (k_here; (with_reducible show wpAny _ _ (call (Value.ref 208) _) _ _ _); k_dflt (refine' close_use (pre := []) ?B ?F ?X ?T ?hk ?R ?P ?N ?hw ?hdp ?d ?u ?_; (case B => k_asm); (case F => k_asm); (case X => k_asm); (case T => k_asm); (case hk => exact rfl); (case R => assumption); (case P => simp); (case N => k_asm); (case hw => assumption); (case hdp => omega); (case d => first | exact room2 (by assumption) (by exact rfl) | exact room1 (by assumption) (by exact rfl) | omega | (dsimp only [ktrTop]; omega)); (case u => first | exact room2 (by assumption) (by exact rfl) | exact room1 (by assumption) (by exact rfl) | omega | (dsimp only [ktrTop]; omega))); intro _ _ _ _ _ _; tb_start) | (k_here; (with_reducible show wpAny _ _ (call (Value.ref 201) _) _ _ _); k_dflt (refine' begin_use (pre := []) ?B ?F ?X ?T ?hk ?R ?P ?N ?hw ?hdp ?d ?u ?_; (case B => k_asm); (case F => k_asm); (case X => k_asm); (case T => k_asm); (case hk => exact rfl); (case R => assumption); (case P => simp); (case N => k_asm); (case hw => assumption); (case hdp => omega); (case d => first | exact room2 (by assumption) (by exact rfl) | exact room1 (by assumption) (by exact rfl) | omega | (dsimp only [ktrTop]; omega)); (case u => first | exact room2 (by assumption) (by exact rfl) | exact room1 (by assumption) (by exact rfl) | omega | (dsimp only [ktrTop]; omega))); intro _ _ _ _ _ _; tb_start) | (k_here; (with_reducible show wpAny _ _ (call (Value.ref 194) _) _ _ _); k_dflt (refine' op_use (pre := []) ?B ?F ?X ?T ?hk ?R ?P ?N ?hw ?ho ?d ?u ?_; (case B => k_asm); (case F => k_asm); (case X => k_asm); (case T => k_asm); (case hk => exact rfl); (case R => assumption); (case P => simp); (case N => k_asm); (case hw => assumption); (case ho => assumption); (case d => first | exact room2 (by assumption) (by exact rfl) | exact room1 (by assumption) (by exact rfl) | omega | (dsimp only [ktrTop]; omega)); (case u => first | exact room2 (by assumption) (by exact rfl) | exact room1 (by assumption) (by exact rfl) | omega | (dsimp only [ktrTop]; omega))); intro _ _ _ _ _ _; tb_start) | (k_here; (with_reducible show wpAny _ _ (call (Value.ref 187) _) _ _ _); k_dflt (refine' want_use (pre := []) ?B ?F ?X ?T ?hk ?R ?P ?N ?hw ?ne ?d ?u ?_; (case B => k_asm); (case F => k_asm); (case X => k_asm); (case T => k_asm); (case hk => exact rfl); (case R => assumption); (case P => simp); (case N => k_asm); (case hw => assumption); (case ne => decide); (case d => first | exact room2 (by assumption) (by exact rfl) | exact room1 (by assumption) (by exact rfl) | omega | (dsimp only [ktrTop]; omega)); (case u => first | exact room2 (by assumption) (by exact rfl) | exact room1 (by assumption) (by exact rfl) | omega | (dsimp only [ktrTop]; omega))); intro _ _ _ _ _; tb_start) | (k_here; (with_reducible show wpAny _ _ (call (Value.ref 95) _) _ _ _); k_dflt (refine' isop_use ?B ?F ?X ?T ?hk ?N ?l ?d ?u ?_; (case B => k_asm); (case F => k_asm); (case X => k_asm); (case T => k_asm); (case hk => exact rfl); (case N => k_asm); (case l => (first | assumption | exact Nat.le_of_ble_eq_true rfl | omega)); (case d => first | exact room2 (by assumption) (by exact rfl) | exact room1 (by assumption) (by exact rfl) | omega | (dsimp only [ktrTop]; omega)); (case u => first | exact room2 (by assumption) (by exact rfl) | exact room1 (by assumption) (by exact rfl) | omega | (dsimp only [ktrTop]; omega))); intro _ _ _ _; (try k_sweep)) | (k_here; (with_reducible show wpAny _ _ (call (Value.ref 180) _) _ _ _); k_dflt (refine' take_use (pre := []) ?B ?F ?X ?T ?hk ?R ?P ?N ?hw ?d ?u ?_; (case B => k_asm); (case F => k_asm); (case X => k_asm); (case T => k_asm); (case hk => exact rfl); (case R => assumption); (case P => simp); (case N => k_asm); (case hw => assumption); (case d => first | exact room2 (by assumption) (by exact rfl) | exact room1 (by assumption) (by exact rfl) | omega | (dsimp only [ktrTop]; omega)); (case u => first | exact room2 (by assumption) (by exact rfl) | exact room1 (by assumption) (by exact rfl) | omega | (dsimp only [ktrTop]; omega))); intro _ _ _ _ _ _; tb_start) | (k_here; (with_reducible show wpAny _ _ (call (Value.ref 173) _) _ _ _); k_dflt (refine' spot_use (pre := []) ?B ?F ?X ?T ?hk ?R ?N ?hw ?d ?u ?_; (case B => k_asm); (case F => k_asm); (case X => k_asm); (case T => k_asm); (case hk => exact rfl); (case R => assumption); (case N => k_asm); (case hw => assumption); (case d => first | exact room2 (by assumption) (by exact rfl) | exact room1 (by assumption) (by exact rfl) | omega | (dsimp only [ktrTop]; omega)); (case u => first | exact room2 (by assumption) (by exact rfl) | exact room1 (by assumption) (by exact rfl) | omega | (dsimp only [ktrTop]; omega))); intro _ _ _ _ _; tb_start) | (k_here; (with_reducible show wpAny _ _ (call (Value.ref 166) _) _ _ _); k_dflt (refine' word_use (pre := []) ?B ?F ?X ?T ?hk ?R ?N ?hw ?d ?u ?_; (case B => k_asm); (case F => k_asm); (case X => k_asm); (case T => k_asm); (case hk => exact rfl); (case R => assumption); (case N => k_asm); (case hw => assumption); (case d => first | exact room2 (by assumption) (by exact rfl) | exact room1 (by assumption) (by exact rfl) | omega | (dsimp only [ktrTop]; omega)); (case u => first | exact room2 (by assumption) (by exact rfl) | exact room1 (by assumption) (by exact rfl) | omega | (dsimp only [ktrTop]; omega))); intro _ _ _ _ _; tb_start)) | walk1 | (dsimp only; first | walk1 | (k_unfold; (try dsimp only)))))))
  dsimp only
  rename News g' _ _ _ => N1
  rename Fr g' _ _ _ => F1
  have kp1 := kp_of (S := [dxr]) N hg' F1 N1 (rdl_sub' rfl)
  have hd1 := (N1 _ (.tail _ (.head _))).1
  k_dflt (refine' term_use (pre := []) hT ?B ?F ?X ?T ?hk ?R ?P ?N hatT hokT ?hdp ?d ?u ?_; (case B => k_asm); (case F => k_asm); (case X => k_asm); (case T => k_asm); (case hk => exact rfl); (case R => assumption); (case P => simp); (case N => k_asm); (case hdp => omega); (case d => first | exact room2 (by assumption) (by exact rfl) | exact room1 (by assumption) (by exact rfl) | omega | (dsimp only [ktrTop]; omega)); (case u => first | exact room2 (by assumption) (by exact rfl) | exact room1 (by assumption) (by exact rfl) | omega | (dsimp only [ktrTop]; omega)))
  intro h2 tk2 tp2 td2 v2 ex2 F2 N2 R2 hex2 hin2
  dsimp only [rdL, List.nil_append] at N2
  have hn2 : ∀ x ∈ ex2, s.heap.get? x.1 = none := fun x hx => kp_none kp1 (by simpa using ⟨_, hd1⟩) (hex2 x hx)
  clear N1 R F1
  have n3 := R2.n3
  have hsub2 : ∀ x ∈ ex2, x ∈ ex2 ++ tl := fun x hx => List.mem_append_left _ hx
  have h02 : ∀ x ∈ tl, x ∈ ex2 ++ tl := fun x hx => List.mem_append_right _ hx
  generalize htl : ex2 ++ tl = tl2 at N2 R2 n3 hsub2 h02
  (repeat' (first | (k_unfold; (try dsimp only)) | ((fail_if_success (with_reducible first | refine stop_at [76, 222] (by decide) ?_ | refine stop_st (by decide) ?_ | refine stop_bl (by decide) ?_ | refine stop_lc ?_ | refine stop_jp ?_ | show LCg.CompSrc _ _ _ _ _ _ _ _ _ _ _ _ _ _ | show LCt.CompSrcT _ _ _ _ _ _ _ _ _ _ _ _ _ _ _)); (first | ((with_reducible refine stop_cr ?_); first | (k_here; (with_reducible show wpAny _ _ (call (Value.ref 208) _) _ _ _); k_dflt (refine' close_use (pre := [_]) ?B ?F ?X ?T ?hk ?R ?P ?N ?hw ?hdp ?d ?u ?_; (case B => k_asm); (case F => k_asm); (case X => k_asm); (case T => k_asm); (case hk => exact rfl); (case R => assumption); (case N => k_asm); (case P => (intro x hx; simp only [List.mem_singleton] at hx; subst hx; (try dsimp only); exact Ne.symm (by assumption))); (case hw => assumption); (case hdp => omega); (case d => first | exact room2 (by assumption) (by exact rfl) | exact room1 (by assumption) (by exact rfl) | omega | (dsimp only [ktrTop]; omega)); (case u => first | exact room2 (by assumption) (by exact rfl) | exact room1 (by assumption) (by exact rfl) | omega | (dsimp only [ktrTop]; omega))); intro _ _ _ _ _ _; tb_rel) | (k_here; (with_reducible show wpAny _ _ (call (Value.ref 201) _) _ _ _); k_dflt (refine' begin_use (pre := [_]) ?B ?F ?X ?T ?hk ?R ?P ?N ?hw ?hdp ?d ?u ?_; (case B => k_asm); (case F => k_asm); (case X => k_asm); (case T => k_asm); (case hk => exact rfl); (case R => assumption); (case N => k_asm); (case P => (intro x hx; simp only [List.mem_singleton] at hx; subst hx; (try dsimp only); exact Ne.symm (by assumption))); (case hw => assumption); (case hdp => omega); (case d => first | exact room2 (by assumption) (by exact rfl) | exact room1 (by assumption) (by exact rfl) | omega | (dsimp only [ktrTop]; omega)); (case u => first | exact room2 (by assumption) (by exact rfl) | exact room1 (by assumption) (by exact rfl) | omega | (dsimp only [ktrTop]; omega))); intro _ _ _ _ _ _; tb_rel) | (k_here; (with_reducible show wpAny _ _ (call (Value.ref 194) _) _ _ _); k_dflt (refine' op_use (pre := [_]) ?B ?F ?X ?T ?hk ?R ?P ?N ?hw ?ho ?d ?u ?_; (case B => k_asm); (case F => k_asm); (case X => k_asm); (case T => k_asm); (case hk => exact rfl); (case R => assumption); (case N => k_asm); (case P => (intro x hx; simp only [List.mem_singleton] at hx; subst hx; (try dsimp only); exact Ne.symm (by assumption))); (case hw => assumption); (case ho => assumption); (case d => first | exact room2 (by assumption) (by exact rfl) | exact room1 (by assumption) (by exact rfl) | omega | (dsimp only [ktrTop]; omega)); (case u => first | exact room2 (by assumption) (by exact rfl) | exact room1 (by assumption) (by exact rfl) | omega | (dsimp only [ktrTop]; omega))); intro _ _ _ _ _ _; tb_rel) | (k_here; (with_reducible show wpAny _ _ (call (Value.ref 187) _) _ _ _); k_dflt (refine' want_use (pre := [_]) ?B ?F ?X ?T ?hk ?R ?P ?N ?hw ?ne ?d ?u ?_; (case B => k_asm); (case F => k_asm); (case X => k_asm); (case T => k_asm); (case hk => exact rfl); (case R => assumption); (case N => k_asm); (case P => (intro x hx; simp only [List.mem_singleton] at hx; subst hx; (try dsimp only); exact Ne.symm (by assumption))); (case hw => assumption); (case ne => decide); (case d => first | exact room2 (by assumption) (by exact rfl) | exact room1 (by assumption) (by exact rfl) | omega | (dsimp only [ktrTop]; omega)); (case u => first | exact room2 (by assumption) (by exact rfl) | exact room1 (by assumption) (by exact rfl) | omega | (dsimp only [ktrTop]; omega))); intro _ _ _ _ _; tb_rel) | (k_here; (with_reducible show wpAny _ _ (call (Value.ref 180) _) _ _ _); k_dflt (refine' take_use (pre := [_]) ?B ?F ?X ?T ?hk ?R ?P ?N ?hw ?d ?u ?_; (case B => k_asm); (case F => k_asm); (case X => k_asm); (case T => k_asm); (case hk => exact rfl); (case R => assumption); (case N => k_asm); (case P => (intro x hx; simp only [List.mem_singleton] at hx; subst hx; (try dsimp only); exact Ne.symm (by assumption))); (case hw => assumption); (case d => first | exact room2 (by assumption) (by exact rfl) | exact room1 (by assumption) (by exact rfl) | omega | (dsimp only [ktrTop]; omega)); (case u => first | exact room2 (by assumption) (by exact rfl) | exact room1 (by assumption) (by exact rfl) | omega | (dsimp only [ktrTop]; omega))); intro _ _ _ _ _ _; tb_rel) | (k_here; (with_reducible show wpAny _ _ (call (Value.ref 173) _) _ _ _); k_dflt (refine' spot_use (pre := [_]) ?B ?F ?X ?T ?hk ?R ?N ?hw ?d ?u ?_; (case B => k_asm); (case F => k_asm); (case X => k_asm); (case T => k_asm); (case hk => exact rfl); (case R => assumption); (case N => k_asm); (case hw => assumption); (case d => first | exact room2 (by assumption) (by exact rfl) | exact room1 (by assumption) (by exact rfl) | omega | (dsimp only [ktrTop]; omega)); (case u => first | exact room2 (by assumption) (by exact rfl) | exact room1 (by assumption) (by exact rfl) | omega | (dsimp only [ktrTop]; omega))); intro _ _ _ _ _; tb_rel) | (k_here; (with_reducible show wpAny _ _ (call (Value.ref 166) _) _ _ _); k_dflt (refine' word_use (pre := [_]) ?B ?F ?X ?T ?hk ?R ?N ?hw ?d ?u ?_; (case B => k_asm); (case F => k_asm); (case X => k_asm); (case T => k_asm); (case hk => exact rfl); (case R => assumption); (case N => k_asm); (case hw => assumption); (case d => first | exact room2 (by assumption) (by exact rfl) | exact room1 (by assumption) (by exact rfl) | omega | (dsimp only [ktrTop]; omega)); (case u => first | exact room2 (by assumption) (by exact rfl) | exact room1 (by assumption) (by exact rfl) | omega | (dsimp only [ktrTop]; omega))); intro _ _ _ _ _; tb_rel) | (k_here; (with_reducible show wpAny _ _ (call (Value.ref 208) _) _ _ _); k_dflt (refine' close_use (pre := []) ?B ?F ?X ?T ?hk ?R ?P ?N ?hw ?hdp ?d ?u ?_; (case B => k_asm); (case F => k_asm); (case X => k_asm); (case T => k_asm); (case hk => exact rfl); (case R => assumption); (case P => simp); (case N => k_asm); (case hw => assumption); (case hdp => omega); (case d => first | exact room2 (by assumption) (by exact rfl) | exact room1 (by assumption) (by exact rfl) | omega | (dsimp only [ktrTop]; omega)); (case u => first | exact room2 (by assumption) (by exact rfl) | exact room1 (by assumption) (by exact rfl) | omega | (dsimp only [ktrTop]; omega))); intro _ _ _ _ _ _; tb_start) | (k_here; (with_reducible show wpAny _ _ (call (Value.ref 201) _) _ _ _); k_dflt (refine' begin_use (pre := []) ?B ?F ?X ?T ?hk ?R ?P ?N ?hw ?hdp ?d ?u ?_; (case B => k_asm); (case F => k_asm); (case X => k_asm); (case T => k_asm); (case hk => exact rfl); (case R => assumption); (case P => simp); (case N => k_asm); (case hw => assumption); (case hdp => omega); (case d => first | exact room2 (by assumption) (by exact rfl) | exact room1 (by assumption) (by exact rfl) | omega | (dsimp only [ktrTop]; omega)); (case u => first | exact room2 (by assumption) (by exact rfl) | exact room1 (by assumption) (by exact rfl) | omega | (dsimp only [ktrTop]; omega))); intro _ _ _ _ _ _; tb_start) | (k_here; (with_reducible show wpAny _ _ (call (Value.ref 194) _) _ _ _); k_dflt (refine' op_use (pre := []) ?B ?F ?X ?T ?hk ?R ?P ?N ?hw ?ho ?d ?u ?_; (case B => k_asm); (case F => k_asm); (case X => k_asm); (case T => k_asm); (case hk => exact rfl); (case R => assumption); (case P => simp); (case N => k_asm); (case hw => assumption); (case ho => assumption); (case d => first | exact room2 (by assumption) (by exact rfl) | exact room1 (by assumption) (by exact rfl) | omega | (dsimp only [ktrTop]; omega)); (case u => first | exact room2 (by assumption) (by exact rfl) | exact room1 (by assumption) (by exact rfl) | omega | (dsimp only [ktrTop]; omega))); intro _ _ _ _ _ _; tb_start) | (k_here; (with_reducible show wpAny _ _ (call (Value.ref 187) _) _ _ _); k_dflt (refine' want_use (pre := []) ?B ?F ?X ?T ?hk ?R ?P ?N ?hw ?ne ?d ?u ?_; (case B => k_asm); (case F => k_asm); (case X => k_asm); (case T => k_asm); (case hk => exact rfl); (case R => assumption); (case P => simp); (case N => k_asm); (case hw => assumption); (case ne => decide); (case d => first | exact room2 (by assumption) (by exact rfl) | exact room1 (by assumption) (by exact rfl) | omega | (dsimp only [ktrTop]; omega)); (case u => first | exact room2 (by assumption) (by exact rfl) | exact room1 (by assumption) (by exact rfl) | omega | (dsimp only [ktrTop]; omega))); intro _ _ _ _ _; tb_start) | (k_here; (with_reducible show wpAny _ _ (call (Value.ref 95) _) _ _ _); k_dflt (refine' isop_use ?B ?F ?X ?T ?hk ?N ?l ?d ?u ?_; (case B => k_asm); (case F => k_asm); (case X => k_asm); (case T => k_asm); (case hk => exact rfl); (case N => k_asm); (case l => (first | assumption | exact Nat.le_of_ble_eq_true rfl | omega)); (case d => first | exact room2 (by assumption) (by exact rfl) | exact room1 (by assumption) (by exact rfl) | omega | (dsimp only [ktrTop]; omega)); (case u => first | exact room2 (by assumption) (by exact rfl) | exact room1 (by assumption) (by exact rfl) | omega | (dsimp only [ktrTop]; omega))); intro _ _ _ _; (try k_sweep)) | (k_here; (with_reducible show wpAny _ _ (call (Value.ref 180) _) _ _ _); k_dflt (refine' take_use (pre := []) ?B ?F ?X ?T ?hk ?R ?P ?N ?hw ?d ?u ?_; (case B => k_asm); (case F => k_asm); (case X => k_asm); (case T => k_asm); (case hk => exact rfl); (case R => assumption); (case P => simp); (case N => k_asm); (case hw => assumption); (case d => first | exact room2 (by assumption) (by exact rfl) | exact room1 (by assumption) (by exact rfl) | omega | (dsimp only [ktrTop]; omega)); (case u => first | exact room2 (by assumption) (by exact rfl) | exact room1 (by assumption) (by exact rfl) | omega | (dsimp only [ktrTop]; omega))); intro _ _ _ _ _ _; tb_start) | (k_here; (with_reducible show wpAny _ _ (call (Value.ref 173) _) _ _ _); k_dflt (refine' spot_use (pre := []) ?B ?F ?X ?T ?hk ?R ?N ?hw ?d ?u ?_; (case B => k_asm); (case F => k_asm); (case X => k_asm); (case T => k_asm); (case hk => exact rfl); (case R => assumption); (case N => k_asm); (case hw => assumption); (case d => first | exact room2 (by assumption) (by exact rfl) | exact room1 (by assumption) (by exact rfl) | omega | (dsimp only [ktrTop]; omega)); (case u => first | exact room2 (by assumption) (by exact rfl) | exact room1 (by assumption) (by exact rfl) | omega | (dsimp only [ktrTop]; omega))); intro _ _ _ _ _; tb_start) | (k_here; (with_reducible show wpAny _ _ (call (Value.ref 166) _) _ _ _); k_dflt (refine' word_use (pre := []) ?B ?F ?X ?T ?hk ?R ?N ?hw ?d ?u ?_; (case B => k_asm); (case F => k_asm); (case X => k_asm); (case T => k_asm); (case hk => exact rfl); (case R => assumption); (case N => k_asm); (case hw => assumption); (case d => first | exact room2 (by assumption) (by exact rfl) | exact room1 (by assumption) (by exact rfl) | omega | (dsimp only [ktrTop]; omega)); (case u => first | exact room2 (by assumption) (by exact rfl) | exact room1 (by assumption) (by exact rfl) | omega | (dsimp only [ktrTop]; omega))); intro _ _ _ _ _; tb_start)) | walk1 | (dsimp only; first | walk1 | (k_unfold; (try dsimp only)))))))
  rename Fr g' _ _ _ => F3
  rename News g' _ _ ((_, _) :: _) => N3
  rename rd < _ ∧ _ => lt3
  rename_i l' _ _
  obtain ⟨l1, l2, l3, l4⟩ := lt3
  have m1 : rd ≠ l' := Nat.ne_of_lt l1
  have m2 : dxr ≠ l' := Nat.ne_of_lt l2
  have m3 : r ≠ l' := Nat.ne_of_lt l3
  have m4 : ∀ x ∈ tl2, x.1 ≠ l' := fun x hx => Nat.ne_of_lt (allLt_mem l4 x hx)
  refine While_inv (TInv s rd dxr r k vs n ws d l' _ T ks (p + 1 + 1 + T.toks.length + (Tm.toksL ks).length) tl) F3 N3 (n₀ := ks.length) ⟨[], ks, _, _, tl2, ex2, _, _, _, _, rfl, rfl, rfl, rfl, ?_, R2, hsub2, .cons hin2 .nil, hn2, rfl, rfl, ?_, rfl, m4, h02⟩ ?_
  · simp
    omega
  · simpa only [List.append_assoc] using hatK0
  · intro nn m₁ news₁ h₁ tk₁ F₁ N₁ hJ
    clear N3 F3 n3 hn2 hin2 hsub2 R2 h02 l1 l2 l3 l4 kp1 hd1 m4 htl hex2
    obtain ⟨done, left, xs, vals, tlj, exj, tp3, td3, c3, pj, hks, rfl, rfl, hxs, hxl, Rj, hsubj, hinj, hnj, e1, e2, hatj, hpe, m4, h0j⟩ := hJ
    replace F₁ := fr_over [("self", .ref rd), ("found", .ref l')] F₁ (by simp [e1, e2])
    dsimp only [over] at F₁
    dsimp only [rdL] at N₁
    have n3 := Rj.n3
    cases left with
    | nil =>
      obtain ⟨⟨sp3, hw3⟩, _⟩ := hatj
      (repeat' (first | (k_unfold; (try dsimp only)) | ((fail_if_success (with_reducible first | refine stop_at [76, 222] (by decide) ?_ | refine stop_st (by decide) ?_ | refine stop_bl (by decide) ?_ | refine stop_lc ?_ | refine stop_jp ?_ | show LCg.CompSrc _ _ _ _ _ _ _ _ _ _ _ _ _ _ | show LCt.CompSrcT _ _ _ _ _ _ _ _ _ _ _ _ _ _ _)); (first | ((with_reducible refine stop_cr ?_); first | (k_here; (with_reducible show wpAny _ _ (call (Value.ref 208) _) _ _ _); k_dflt (refine' close_use (pre := [_]) ?B ?F ?X ?T ?hk ?R ?P ?N ?hw ?hdp ?d ?u ?_; (case B => k_asm); (case F => k_asm); (case X => k_asm); (case T => k_asm); (case hk => exact rfl); (case R => assumption); (case N => k_asm); (case P => (intro x hx; simp only [List.mem_singleton] at hx; subst hx; (try dsimp only); exact Ne.symm (by assumption))); (case hw => assumption); (case hdp => omega); (case d => first | exact room2 (by assumption) (by exact rfl) | exact room1 (by assumption) (by exact rfl) | omega | (dsimp only [ktrTop]; omega)); (case u => first | exact room2 (by assumption) (by exact rfl) | exact room1 (by assumption) (by exact rfl) | omega | (dsimp only [ktrTop]; omega))); intro _ _ _ _ _ _; tb_rel) | (k_here; (with_reducible show wpAny _ _ (call (Value.ref 201) _) _ _ _); k_dflt (refine' begin_use (pre := [_]) ?B ?F ?X ?T ?hk ?R ?P ?N ?hw ?hdp ?d ?u ?_; (case B => k_asm); (case F => k_asm); (case X => k_asm); (case T => k_asm); (case hk => exact rfl); (case R => assumption); (case N => k_asm); (case P => (intro x hx; simp only [List.mem_singleton] at hx; subst hx; (try dsimp only); exact Ne.symm (by assumption))); (case hw => assumption); (case hdp => omega); (case d => first | exact room2 (by assumption) (by exact rfl) | exact room1 (by assumption) (by exact rfl) | omega | (dsimp only [ktrTop]; omega)); (case u => first | exact room2 (by assumption) (by exact rfl) | exact room1 (by assumption) (by exact rfl) | omega | (dsimp only [ktrTop]; omega))); intro _ _ _ _ _ _; tb_rel) | (k_here; (with_reducible show wpAny _ _ (call (Value.ref 194) _) _ _ _); k_dflt (refine' op_use (pre := [_]) ?B ?F ?X ?T ?hk ?R ?P ?N ?hw ?ho ?d ?u ?_; (case B => k_asm); (case F => k_asm); (case X => k_asm); (case T => k_asm); (case hk => exact rfl); (case R => assumption); (case N => k_asm); (case P => (intro x hx; simp only [List.mem_singleton] at hx; subst hx; (try dsimp only); exact Ne.symm (by assumption))); (case hw => assumption); (case ho => assumption); (case d => first | exact room2 (by assumption) (by exact rfl) | exact room1 (by assumption) (by exact rfl) | omega | (dsimp only [ktrTop]; omega)); (case u => first | exact room2 (by assumption) (by exact rfl) | exact room1 (by assumption) (by exact rfl) | omega | (dsimp only [ktrTop]; omega))); intro _ _ _ _ _ _; tb_rel) | (k_here; (with_reducible show wpAny _ _ (call (Value.ref 187) _) _ _ _); k_dflt (refine' want_use (pre := [_]) ?B ?F ?X ?T ?hk ?R ?P ?N ?hw ?ne ?d ?u ?_; (case B => k_asm); (case F => k_asm); (case X => k_asm); (case T => k_asm); (case hk => exact rfl); (case R => assumption); (case N => k_asm); (case P => (intro x hx; simp only [List.mem_singleton] at hx; subst hx; (try dsimp only); exact Ne.symm (by assumption))); (case hw => assumption); (case ne => decide); (case d => first | exact room2 (by assumption) (by exact rfl) | exact room1 (by assumption) (by exact rfl) | omega | (dsimp only [ktrTop]; omega)); (case u => first | exact room2 (by assumption) (by exact rfl) | exact room1 (by assumption) (by exact rfl) | omega | (dsimp only [ktrTop]; omega))); intro _ _ _ _ _; tb_rel) | (k_here; (with_reducible show wpAny _ _ (call (Value.ref 180) _) _ _ _); k_dflt (refine' take_use (pre := [_]) ?B ?F ?X ?T ?hk ?R ?P ?N ?hw ?d ?u ?_; (case B => k_asm); (case F => k_asm); (case X => k_asm); (case T => k_asm); (case hk => exact rfl); (case R => assumption); (case N => k_asm); (case P => (intro x hx; simp only [List.mem_singleton] at hx; subst hx; (try dsimp only); exact Ne.symm (by assumption))); (case hw => assumption); (case d => first | exact room2 (by assumption) (by exact rfl) | exact room1 (by assumption) (by exact rfl) | omega | (dsimp only [ktrTop]; omega)); (case u => first | exact room2 (by assumption) (by exact rfl) | exact room1 (by assumption) (by exact rfl) | omega | (dsimp only [ktrTop]; omega))); intro _ _ _ _ _ _; tb_rel) | (k_here; (with_reducible show wpAny _ _ (call (Value.ref 173) _) _ _ _); k_dflt (refine' spot_use (pre := [_]) ?B ?F ?X ?T ?hk ?R ?N ?hw ?d ?u ?_; (case B => k_asm); (case F => k_asm); (case X => k_asm); (case T => k_asm); (case hk => exact rfl); (case R => assumption); (case N => k_asm); (case hw => assumption); (case d => first | exact room2 (by assumption) (by exact rfl) | exact room1 (by assumption) (by exact rfl) | omega | (dsimp only [ktrTop]; omega)); (case u => first | exact room2 (by assumption) (by exact rfl) | exact room1 (by assumption) (by exact rfl) | omega | (dsimp only [ktrTop]; omega))); intro _ _ _ _ _; tb_rel) | (k_here; (with_reducible show wpAny _ _ (call (Value.ref 166) _) _ _ _); k_dflt (refine' word_use (pre := [_]) ?B ?F ?X ?T ?hk ?R ?N ?hw ?d ?u ?_; (case B => k_asm); (case F => k_asm); (case X => k_asm); (case T => k_asm); (case hk => exact rfl); (case R => assumption); (case N => k_asm); (case hw => assumption); (case d => first | exact room2 (by assumption) (by exact rfl) | exact room1 (by assumption) (by exact rfl) | omega | (dsimp only [ktrTop]; omega)); (case u => first | exact room2 (by assumption) (by exact rfl) | exact room1 (by assumption) (by exact rfl) | omega | (dsimp only [ktrTop]; omega))); intro _ _ _ _ _; tb_rel) | (k_here; (with_reducible show wpAny _ _ (call (Value.ref 208) _) _ _ _); k_dflt (refine' close_use (pre := []) ?B ?F ?X ?T ?hk ?R ?P ?N ?hw ?hdp ?d ?u ?_; (case B => k_asm); (case F => k_asm); (case X => k_asm); (case T => k_asm); (case hk => exact rfl); (case R => assumption); (case P => simp); (case N => k_asm); (case hw => assumption); (case hdp => omega); (case d => first | exact room2 (by assumption) (by exact rfl) | exact room1 (by assumption) (by exact rfl) | omega | (dsimp only [ktrTop]; omega)); (case u => first | exact room2 (by assumption) (by exact rfl) | exact room1 (by assumption) (by exact rfl) | omega | (dsimp only [ktrTop]; omega))); intro _ _ _ _ _ _; tb_start) | (k_here; (with_reducible show wpAny _ _ (call (Value.ref 201) _) _ _ _); k_dflt (refine' begin_use (pre := []) ?B ?F ?X ?T ?hk ?R ?P ?N ?hw ?hdp ?d ?u ?_; (case B => k_asm); (case F => k_asm); (case X => k_asm); (case T => k_asm); (case hk => exact rfl); (case R => assumption); (case P => simp); (case N => k_asm); (case hw => assumption); (case hdp => omega); (case d => first | exact room2 (by assumption) (by exact rfl) | exact room1 (by assumption) (by exact rfl) | omega | (dsimp only [ktrTop]; omega)); (case u => first | exact room2 (by assumption) (by exact rfl) | exact room1 (by assumption) (by exact rfl) | omega | (dsimp only [ktrTop]; omega))); intro _ _ _ _ _ _; tb_start) | (k_here; (with_reducible show wpAny _ _ (call (Value.ref 194) _) _ _ _); k_dflt (refine' op_use (pre := []) ?B ?F ?X ?T ?hk ?R ?P ?N ?hw ?ho ?d ?u ?_; (case B => k_asm); (case F => k_asm); (case X => k_asm); (case T => k_asm); (case hk => exact rfl); (case R => assumption); (case P => simp); (case N => k_asm); (case hw => assumption); (case ho => assumption); (case d => first | exact room2 (by assumption) (by exact rfl) | exact room1 (by assumption) (by exact rfl) | omega | (dsimp only [ktrTop]; omega)); (case u => first | exact room2 (by assumption) (by exact rfl) | exact room1 (by assumption) (by exact rfl) | omega | (dsimp only [ktrTop]; omega))); intro _ _ _ _ _ _; tb_start) | (k_here; (with_reducible show wpAny _ _ (call (Value.ref 187) _) _ _ _); k_dflt (refine' want_use (pre := []) ?B ?F ?X ?T ?hk ?R ?P ?N ?hw ?ne ?d ?u ?_; (case B => k_asm); (case F => k_asm); (case X => k_asm); (case T => k_asm); (case hk => exact rfl); (case R => assumption); (case P => simp); (case N => k_asm); (case hw => assumption); (case ne => decide); (case d => first | exact room2 (by assumption) (by exact rfl) | exact room1 (by assumption) (by exact rfl) | omega | (dsimp only [ktrTop]; omega)); (case u => first | exact room2 (by assumption) (by exact rfl) | exact room1 (by assumption) (by exact rfl) | omega | (dsimp only [ktrTop]; omega))); intro _ _ _ _ _; tb_start) | (k_here; (with_reducible show wpAny _ _ (call (Value.ref 95) _) _ _ _); k_dflt (refine' isop_use ?B ?F ?X ?T ?hk ?N ?l ?d ?u ?_; (case B => k_asm); (case F => k_asm); (case X => k_asm); (case T => k_asm); (case hk => exact rfl); (case N => k_asm); (case l => (first | assumption | exact Nat.le_of_ble_eq_true rfl | omega)); (case d => first | exact room2 (by assumption) (by exact rfl) | exact room1 (by assumption) (by exact rfl) | omega | (dsimp only [ktrTop]; omega)); (case u => first | exact room2 (by assumption) (by exact rfl) | exact room1 (by assumption) (by exact rfl) | omega | (dsimp only [ktrTop]; omega))); intro _ _ _ _; (try k_sweep)) | (k_here; (with_reducible show wpAny _ _ (call (Value.ref 180) _) _ _ _); k_dflt (refine' take_use (pre := []) ?B ?F ?X ?T ?hk ?R ?P ?N ?hw ?d ?u ?_; (case B => k_asm); (case F => k_asm); (case X => k_asm); (case T => k_asm); (case hk => exact rfl); (case R => assumption); (case P => simp); (case N => k_asm); (case hw => assumption); (case d => first | exact room2 (by assumption) (by exact rfl) | exact room1 (by assumption) (by exact rfl) | omega | (dsimp only [ktrTop]; omega)); (case u => first | exact room2 (by assumption) (by exact rfl) | exact room1 (by assumption) (by exact rfl) | omega | (dsimp only [ktrTop]; omega))); intro _ _ _ _ _ _; tb_start) | (k_here; (with_reducible show wpAny _ _ (call (Value.ref 173) _) _ _ _); k_dflt (refine' spot_use (pre := []) ?B ?F ?X ?T ?hk ?R ?N ?hw ?d ?u ?_; (case B => k_asm); (case F => k_asm); (case X => k_asm); (case T => k_asm); (case hk => exact rfl); (case R => assumption); (case N => k_asm); (case hw => assumption); (case d => first | exact room2 (by assumption) (by exact rfl) | exact room1 (by assumption) (by exact rfl) | omega | (dsimp only [ktrTop]; omega)); (case u => first | exact room2 (by assumption) (by exact rfl) | exact room1 (by assumption) (by exact rfl) | omega | (dsimp only [ktrTop]; omega))); intro _ _ _ _ _; tb_start) | (k_here; (with_reducible show wpAny _ _ (call (Value.ref 166) _) _ _ _); k_dflt (refine' word_use (pre := []) ?B ?F ?X ?T ?hk ?R ?N ?hw ?d ?u ?_; (case B => k_asm); (case F => k_asm); (case X => k_asm); (case T => k_asm); (case hk => exact rfl); (case R => assumption); (case N => k_asm); (case hw => assumption); (case d => first | exact room2 (by assumption) (by exact rfl) | exact room1 (by assumption) (by exact rfl) | omega | (dsimp only [ktrTop]; omega)); (case u => first | exact room2 (by assumption) (by exact rfl) | exact room1 (by assumption) (by exact rfl) | omega | (dsimp only [ktrTop]; omega))); intro _ _ _ _ _; tb_start)) | walk1 | (dsimp only; first | walk1 | (k_unfold; (try dsimp only)))))))
      rename News g' _ _ _ => N7
      rename Fr g' _ _ _ => F7
      have hpl : pj < ws.length := (List.getElem?_eq_some_iff.mp hw3).1
      have hsm := Rj.sm
      refine call_tuple_list (N7.isList (.head _)) (fun h8 hk8 => ?_) (by rw [sizeLine_eq, List.size_toArray]; omega)
      have F8 := (F7.keeps hk8)
      have N8 : News g' L' h8 _ := fun p hp => ⟨hk8 _ _ (N7 p hp).1, (N7 p hp).2⟩
      have F9 := F8.push (o := ({ cls := .type "tuple", data := .seq xs.toArray } : Obj))
      have N9 := N8.push F8 ({ cls := .type "tuple", data := .seq xs.toArray } : Obj)
      have hks' : done = ks := by rw [hks, List.append_nil]
      obtain ⟨t0, hx0⟩ : ∃ t0, xs = .str o t0 :: vals := ⟨_, hxs⟩
      clear hxs
      subst hx0 hks'
      have elen : (Tm.node o (T :: done)).toks.length + p = pj + 1 := by
        rw [etok]
        simp only [Tm.toksL, List.length_nil] at hpe
        simp only [List.length_append, List.length_cons, List.length_nil]
        omega
      have hd9 := (N9 _ (.tail _ (.tail _ (.tail _ (.head _))))).1
      dsimp only at hd9
      rw [show pj + 1 = p + (Tm.node o (T :: done)).toks.length by omega] at hd9
      refine hQ _ _ _ _ _ ((h8.objs.size, tupOf (.str o t0 :: vals)) :: exj) ?_ hd9 ?_ (.node (.head _) (hinj.mono fun x h => .tail _ h))
      · refine kp_of N hg' F9 N9 (fun y hy ny => ?_)
        simp only [rdL, List.mem_cons, List.not_mem_nil, or_false] at hy ny ⊢
        rcases hy with rfl | rfl | rfl | h
        · exact .inr (.inr (.inl rfl))
        · exact absurd rfl ny
        · exact .inr (.inr (.inr (.inr (.inl rfl))))
        · exact .inr (.inr (.inr (.inr (.inr (h0j y h)))))
      · intro x hx
        rcases List.mem_cons.mp hx with rfl | hx
        · refine ⟨(N9 _ (.head _)).1, ?_⟩
          refine kp_none (kp_of (S := [dxr]) N hg' F8 N8 (fun y hy ny => by
            simp only [rdL, List.mem_cons, List.not_mem_nil, or_false] at hy ny ⊢
            rcases hy with rfl | rfl | rfl | h
            · exact .inr (.inl rfl)
            · exact absurd rfl ny
            · exact .inr (.inr (.inr (.inl rfl)))
            · exact .inr (.inr (.inr (.inr (h0j y h)))))) (by simpa using ⟨_, (N8 _ (.tail _ (.tail _ (.head _)))).1⟩) (Heap.get?_none_of_le (Nat.le_refl _))
        · exact ⟨(N9 x (.tail _ (.tail _ (.tail _ (.tail _ (.tail _ (hsubj x hx))))))).1, hnj x hx⟩
    | cons T2 rest =>
      have hmem : T2 ∈ ks := by rw [hks]; simp
      have hok2 := okL_mem hokK hmem
      have hdp2 := deepL_mem hmem
      obtain ⟨x, l, hx, hxne⟩ := T2.toks_head hok2
      have hatj' : HasAt ws pj (T2.toks ++ (Tm.toksL rest ++ [(")" : PySem.Str)])) := by
        simpa only [Tm.toksL, List.append_assoc] using hatj
      obtain ⟨hat4, hat5⟩ := hatj'.split
      obtain ⟨sp3, hw3⟩ : ∃ sp, ws[pj]? = some (x, sp) := by
        rw [hx] at hat4
        exact hat4.1
      have hxne' : (x != (")" : PySem.Str)) = true := by rw [bne_iff_ne]; exact hxne
      have hpl : pj < ws.length := (List.getElem?_eq_some_iff.mp hw3).1
      have hsm := Rj.sm
      (repeat' (first | (k_unfold; (try dsimp only)) | ((fail_if_success (with_reducible first | refine stop_at [76, 222] (by decide) ?_ | refine stop_st (by decide) ?_ | refine stop_bl (by decide) ?_ | refine stop_lc ?_ | refine stop_jp ?_ | show LCg.CompSrc _ _ _ _ _ _ _ _ _ _ _ _ _ _ | show LCt.CompSrcT _ _ _ _ _ _ _ _ _ _ _ _ _ _ _)); (first | ((with_reducible refine stop_cr ?_); first | (k_here; (with_reducible show wpAny _ _ (call (Value.ref 208) _) _ _ _); k_dflt (refine' close_use (pre := [_]) ?B ?F ?X ?T ?hk ?R ?P ?N ?hw ?hdp ?d ?u ?_; (case B => k_asm); (case F => k_asm); (case X => k_asm); (case T => k_asm); (case hk => exact rfl); (case R => assumption); (case N => k_asm); (case P => (intro x hx; simp only [List.mem_singleton] at hx; subst hx; (try dsimp only); exact Ne.symm (by assumption))); (case hw => assumption); (case hdp => omega); (case d => first | exact room2 (by assumption) (by exact rfl) | exact room1 (by assumption) (by exact rfl) | omega | (dsimp only [ktrTop]; omega)); (case u => first | exact room2 (by assumption) (by exact rfl) | exact room1 (by assumption) (by exact rfl) | omega | (dsimp only [ktrTop]; omega))); intro _ _ _ _ _ _; tb_rel) | (k_here; (with_reducible show wpAny _ _ (call (Value.ref 201) _) _ _ _); k_dflt (refine' begin_use (pre := [_]) ?B ?F ?X ?T ?hk ?R ?P ?N ?hw ?hdp ?d ?u ?_; (case B => k_asm); (case F => k_asm); (case X => k_asm); (case T => k_asm); (case hk => exact rfl); (case R => assumption); (case N => k_asm); (case P => (intro x hx; simp only [List.mem_singleton] at hx; subst hx; (try dsimp only); exact Ne.symm (by assumption))); (case hw => assumption); (case hdp => omega); (case d => first | exact room2 (by assumption) (by exact rfl) | exact room1 (by assumption) (by exact rfl) | omega | (dsimp only [ktrTop]; omega)); (case u => first | exact room2 (by assumption) (by exact rfl) | exact room1 (by assumption) (by exact rfl) | omega | (dsimp only [ktrTop]; omega))); intro _ _ _ _ _ _; tb_rel) | (k_here; (with_reducible show wpAny _ _ (call (Value.ref 194) _) _ _ _); k_dflt (refine' op_use (pre := [_]) ?B ?F ?X ?T ?hk ?R ?P ?N ?hw ?ho ?d ?u ?_; (case B => k_asm); (case F => k_asm); (case X => k_asm); (case T => k_asm); (case hk => exact rfl); (case R => assumption); (case N => k_asm); (case P => (intro x hx; simp only [List.mem_singleton] at hx; subst hx; (try dsimp only); exact Ne.symm (by assumption))); (case hw => assumption); (case ho => assumption); (case d => first | exact room2 (by assumption) (by exact rfl) | exact room1 (by assumption) (by exact rfl) | omega | (dsimp only [ktrTop]; omega)); (case u => first | exact room2 (by assumption) (by exact rfl) | exact room1 (by assumption) (by exact rfl) | omega | (dsimp only [ktrTop]; omega))); intro _ _ _ _ _ _; tb_rel) | (k_here; (with_reducible show wpAny _ _ (call (Value.ref 187) _) _ _ _); k_dflt (refine' want_use (pre := [_]) ?B ?F ?X ?T ?hk ?R ?P ?N ?hw ?ne ?d ?u ?_; (case B => k_asm); (case F => k_asm); (case X => k_asm); (case T => k_asm); (case hk => exact rfl); (case R => assumption); (case N => k_asm); (case P => (intro x hx; simp only [List.mem_singleton] at hx; subst hx; (try dsimp only); exact Ne.symm (by assumption))); (case hw => assumption); (case ne => decide); (case d => first | exact room2 (by assumption) (by exact rfl) | exact room1 (by assumption) (by exact rfl) | omega | (dsimp only [ktrTop]; omega)); (case u => first | exact room2 (by assumption) (by exact rfl) | exact room1 (by assumption) (by exact rfl) | omega | (dsimp only [ktrTop]; omega))); intro _ _ _ _ _; tb_rel) | (k_here; (with_reducible show wpAny _ _ (call (Value.ref 180) _) _ _ _); k_dflt (refine' take_use (pre := [_]) ?B ?F ?X ?T ?hk ?R ?P ?N ?hw ?d ?u ?_; (case B => k_asm); (case F => k_asm); (case X => k_asm); (case T => k_asm); (case hk => exact rfl); (case R => assumption); (case N => k_asm); (case P => (intro x hx; simp only [List.mem_singleton] at hx; subst hx; (try dsimp only); exact Ne.symm (by assumption))); (case hw => assumption); (case d => first | exact room2 (by assumption) (by exact rfl) | exact room1 (by assumption) (by exact rfl) | omega | (dsimp only [ktrTop]; omega)); (case u => first | exact room2 (by assumption) (by exact rfl) | exact room1 (by assumption) (by exact rfl) | omega | (dsimp only [ktrTop]; omega))); intro _ _ _ _ _ _; tb_rel) | (k_here; (with_reducible show wpAny _ _ (call (Value.ref 173) _) _ _ _); k_dflt (refine' spot_use (pre := [_]) ?B ?F ?X ?T ?hk ?R ?N ?hw ?d ?u ?_; (case B => k_asm); (case F => k_asm); (case X => k_asm); (case T => k_asm); (case hk => exact rfl); (case R => assumption); (case N => k_asm); (case hw => assumption); (case d => first | exact room2 (by assumption) (by exact rfl) | exact room1 (by assumption) (by exact rfl) | omega | (dsimp only [ktrTop]; omega)); (case u => first | exact room2 (by assumption) (by exact rfl) | exact room1 (by assumption) (by exact rfl) | omega | (dsimp only [ktrTop]; omega))); intro _ _ _ _ _; tb_rel) | (k_here; (with_reducible show wpAny _ _ (call (Value.ref 166) _) _ _ _); k_dflt (refine' word_use (pre := [_]) ?B ?F ?X ?T ?hk ?R ?N ?hw ?d ?u ?_; (case B => k_asm); (case F => k_asm); (case X => k_asm); (case T => k_asm); (case hk => exact rfl); (case R => assumption); (case N => k_asm); (case hw => assumption); (case d => first | exact room2 (by assumption) (by exact rfl) | exact room1 (by assumption) (by exact rfl) | omega | (dsimp only [ktrTop]; omega)); (case u => first | exact room2 (by assumption) (by exact rfl) | exact room1 (by assumption) (by exact rfl) | omega | (dsimp only [ktrTop]; omega))); intro _ _ _ _ _; tb_rel) | (k_here; (with_reducible show wpAny _ _ (call (Value.ref 208) _) _ _ _); k_dflt (refine' close_use (pre := []) ?B ?F ?X ?T ?hk ?R ?P ?N ?hw ?hdp ?d ?u ?_; (case B => k_asm); (case F => k_asm); (case X => k_asm); (case T => k_asm); (case hk => exact rfl); (case R => assumption); (case P => simp); (case N => k_asm); (case hw => assumption); (case hdp => omega); (case d => first | exact room2 (by assumption) (by exact rfl) | exact room1 (by assumption) (by exact rfl) | omega | (dsimp only [ktrTop]; omega)); (case u => first | exact room2 (by assumption) (by exact rfl) | exact room1 (by assumption) (by exact rfl) | omega | (dsimp only [ktrTop]; omega))); intro _ _ _ _ _ _; tb_start) | (k_here; (with_reducible show wpAny _ _ (call (Value.ref 201) _) _ _ _); k_dflt (refine' begin_use (pre := []) ?B ?F ?X ?T ?hk ?R ?P ?N ?hw ?hdp ?d ?u ?_; (case B => k_asm); (case F => k_asm); (case X => k_asm); (case T => k_asm); (case hk => exact rfl); (case R => assumption); (case P => simp); (case N => k_asm); (case hw => assumption); (case hdp => omega); (case d => first | exact room2 (by assumption) (by exact rfl) | exact room1 (by assumption) (by exact rfl) | omega | (dsimp only [ktrTop]; omega)); (case u => first | exact room2 (by assumption) (by exact rfl) | exact room1 (by assumption) (by exact rfl) | omega | (dsimp only [ktrTop]; omega))); intro _ _ _ _ _ _; tb_start) | (k_here; (with_reducible show wpAny _ _ (call (Value.ref 194) _) _ _ _); k_dflt (refine' op_use (pre := []) ?B ?F ?X ?T ?hk ?R ?P ?N ?hw ?ho ?d ?u ?_; (case B => k_asm); (case F => k_asm); (case X => k_asm); (case T => k_asm); (case hk => exact rfl); (case R => assumption); (case P => simp); (case N => k_asm); (case hw => assumption); (case ho => assumption); (case d => first | exact room2 (by assumption) (by exact rfl) | exact room1 (by assumption) (by exact rfl) | omega | (dsimp only [ktrTop]; omega)); (case u => first | exact room2 (by assumption) (by exact rfl) | exact room1 (by assumption) (by exact rfl) | omega | (dsimp only [ktrTop]; omega))); intro _ _ _ _ _ _; tb_start) | (k_here; (with_reducible show wpAny _ _ (call (Value.ref 187) _) _ _ _); k_dflt (refine' want_use (pre := []) ?B ?F ?X ?T ?hk ?R ?P ?N ?hw ?ne ?d ?u ?_; (case B => k_asm); (case F => k_asm); (case X => k_asm); (case T => k_asm); (case hk => exact rfl); (case R => assumption); (case P => simp); (case N => k_asm); (case hw => assumption); (case ne => decide); (case d => first | exact room2 (by assumption) (by exact rfl) | exact room1 (by assumption) (by exact rfl) | omega | (dsimp only [ktrTop]; omega)); (case u => first | exact room2 (by assumption) (by exact rfl) | exact room1 (by assumption) (by exact rfl) | omega | (dsimp only [ktrTop]; omega))); intro _ _ _ _ _; tb_start) | (k_here; (with_reducible show wpAny _ _ (call (Value.ref 95) _) _ _ _); k_dflt (refine' isop_use ?B ?F ?X ?T ?hk ?N ?l ?d ?u ?_; (case B => k_asm); (case F => k_asm); (case X => k_asm); (case T => k_asm); (case hk => exact rfl); (case N => k_asm); (case l => (first | assumption | exact Nat.le_of_ble_eq_true rfl | omega)); (case d => first | exact room2 (by assumption) (by exact rfl) | exact room1 (by assumption) (by exact rfl) | omega | (dsimp only [ktrTop]; omega)); (case u => first | exact room2 (by assumption) (by exact rfl) | exact room1 (by assumption) (by exact rfl) | omega | (dsimp only [ktrTop]; omega))); intro _ _ _ _; (try k_sweep)) | (k_here; (with_reducible show wpAny _ _ (call (Value.ref 180) _) _ _ _); k_dflt (refine' take_use (pre := []) ?B ?F ?X ?T ?hk ?R ?P ?N ?hw ?d ?u ?_; (case B => k_asm); (case F => k_asm); (case X => k_asm); (case T => k_asm); (case hk => exact rfl); (case R => assumption); (case P => simp); (case N => k_asm); (case hw => assumption); (case d => first | exact room2 (by assumption) (by exact rfl) | exact room1 (by assumption) (by exact rfl) | omega | (dsimp only [ktrTop]; omega)); (case u => first | exact room2 (by assumption) (by exact rfl) | exact room1 (by assumption) (by exact rfl) | omega | (dsimp only [ktrTop]; omega))); intro _ _ _ _ _ _; tb_start) | (k_here; (with_reducible show wpAny _ _ (call (Value.ref 173) _) _ _ _); k_dflt (refine' spot_use (pre := []) ?B ?F ?X ?T ?hk ?R ?N ?hw ?d ?u ?_; (case B => k_asm); (case F => k_asm); (case X => k_asm); (case T => k_asm); (case hk => exact rfl); (case R => assumption); (case N => k_asm); (case hw => assumption); (case d => first | exact room2 (by assumption) (by exact rfl) | exact room1 (by assumption) (by exact rfl) | omega | (dsimp only [ktrTop]; omega)); (case u => first | exact room2 (by assumption) (by exact rfl) | exact room1 (by assumption) (by exact rfl) | omega | (dsimp only [ktrTop]; omega))); intro _ _ _ _ _; tb_start) | (k_here; (with_reducible show wpAny _ _ (call (Value.ref 166) _) _ _ _); k_dflt (refine' word_use (pre := []) ?B ?F ?X ?T ?hk ?R ?N ?hw ?d ?u ?_; (case B => k_asm); (case F => k_asm); (case X => k_asm); (case T => k_asm); (case hk => exact rfl); (case R => assumption); (case N => k_asm); (case hw => assumption); (case d => first | exact room2 (by assumption) (by exact rfl) | exact room1 (by assumption) (by exact rfl) | omega | (dsimp only [ktrTop]; omega)); (case u => first | exact room2 (by assumption) (by exact rfl) | exact room1 (by assumption) (by exact rfl) | omega | (dsimp only [ktrTop]; omega))); intro _ _ _ _ _; tb_start)) | walk1 | (dsimp only; first | walk1 | (k_unfold; (try dsimp only)))))))
      dsimp only
      rename News g' _ _ _ => N5
      rename Fr g' _ _ _ => F5
      k_dflt (refine' term_use (pre := [_]) (hks1 _ hmem) ?B ?F ?X ?T ?hk ?R ?P ?N hat4 hok2 ?hdp ?d ?u ?_; (case B => k_asm); (case F => k_asm); (case X => k_asm); (case T => k_asm); (case hk => exact rfl); (case R => assumption); (case N => k_asm); (case P => (intro x hx; simp only [List.mem_singleton] at hx; subst hx; (try dsimp only); exact Ne.symm (by assumption))); (case hdp => omega); (case d => first | exact room2 (by assumption) (by exact rfl) | exact room1 (by assumption) (by exact rfl) | omega | (dsimp only [ktrTop]; omega)); (case u => first | exact room2 (by assumption) (by exact rfl) | exact room1 (by assumption) (by exact rfl) | omega | (dsimp only [ktrTop]; omega)))
      intro h6 tk6 tp6 td6 v6 ex6 F6 N6 R6 hex6 hin6
      dsimp only [rdL, List.nil_append, List.cons_append] at N6
      have m6 : ∀ x ∈ ex6 ++ tlj, x.1 ≠ l' := fun x hx => by
        rcases List.mem_append.mp hx with hx | hx
        · intro e
          have h1 := hex6 x hx
          rw [e] at h1
          have h2 := (N5 _ (.head _)).1
          dsimp only at h2
          rw [h1] at h2
          cases h2
        · exact m4 x hx
      have hn6 : ∀ x ∈ ex6, s.heap.get? x.1 = none := fun x hx => kp_none (kp_of (S := [dxr]) N hg' F5 N5 (fun y hy ny => by
        simp only [rdL, List.mem_cons, List.not_mem_nil, or_false] at hy ny ⊢
        rcases hy with rfl | rfl | rfl | h
        · exact .inr (.inl rfl)
        · exact absurd rfl ny
        · exact .inr (.inr (.inr (.inl rfl)))
        · exact .inr (.inr (.inr (.inr (h0j y h)))))) (by simpa using ⟨_, (N5 _ (.tail _ (.tail _ (.head _)))).1⟩) (hex6 x hx)
      clear N5 F5
      have n6 := R6.n3
      have h06 : ∀ x ∈ tl, x ∈ ex6 ++ tlj := fun x hx => List.mem_append_right _ (h0j x hx)
      have hs6 : ∀ x ∈ ex6 ++ exj, x ∈ ex6 ++ tlj := fun x hx => (List.mem_append.mp hx).elim (fun h => List.mem_append_left _ h) fun h => List.mem_append_right _ (hsubj x h)
      clear m4 n3
      generalize ex6 ++ tlj = tl6 at N6 R6 m6 n6 hs6 h06
      (repeat' (first | (k_unfold; (try dsimp only)) | ((fail_if_success (with_reducible first | refine stop_at [76, 222] (by decide) ?_ | refine stop_st (by decide) ?_ | refine stop_bl (by decide) ?_ | refine stop_lc ?_ | refine stop_jp ?_ | show LCg.CompSrc _ _ _ _ _ _ _ _ _ _ _ _ _ _ | show LCt.CompSrcT _ _ _ _ _ _ _ _ _ _ _ _ _ _ _)); (first | ((with_reducible refine stop_cr ?_); first | (k_here; (with_reducible show wpAny _ _ (call (Value.ref 208) _) _ _ _); k_dflt (refine' close_use (pre := [_]) ?B ?F ?X ?T ?hk ?R ?P ?N ?hw ?hdp ?d ?u ?_; (case B => k_asm); (case F => k_asm); (case X => k_asm); (case T => k_asm); (case hk => exact rfl); (case R => assumption); (case N => k_asm); (case P => (intro x hx; simp only [List.mem_singleton] at hx; subst hx; (try dsimp only); exact Ne.symm (by assumption))); (case hw => assumption); (case hdp => omega); (case d => first | exact room2 (by assumption) (by exact rfl) | exact room1 (by assumption) (by exact rfl) | omega | (dsimp only [ktrTop]; omega)); (case u => first | exact room2 (by assumption) (by exact rfl) | exact room1 (by assumption) (by exact rfl) | omega | (dsimp only [ktrTop]; omega))); intro _ _ _ _ _ _; tb_rel) | (k_here; (with_reducible show wpAny _ _ (call (Value.ref 201) _) _ _ _); k_dflt (refine' begin_use (pre := [_]) ?B ?F ?X ?T ?hk ?R ?P ?N ?hw ?hdp ?d ?u ?_; (case B => k_asm); (case F => k_asm); (case X => k_asm); (case T => k_asm); (case hk => exact rfl); (case R => assumption); (case N => k_asm); (case P => (intro x hx; simp only [List.mem_singleton] at hx; subst hx; (try dsimp only); exact Ne.symm (by assumption))); (case hw => assumption); (case hdp => omega); (case d => first | exact room2 (by assumption) (by exact rfl) | exact room1 (by assumption) (by exact rfl) | omega | (dsimp only [ktrTop]; omega)); (case u => first | exact room2 (by assumption) (by exact rfl) | exact room1 (by assumption) (by exact rfl) | omega | (dsimp only [ktrTop]; omega))); intro _ _ _ _ _ _; tb_rel) | (k_here; (with_reducible show wpAny _ _ (call (Value.ref 194) _) _ _ _); k_dflt (refine' op_use (pre := [_]) ?B ?F ?X ?T ?hk ?R ?P ?N ?hw ?ho ?d ?u ?_; (case B => k_asm); (case F => k_asm); (case X => k_asm); (case T => k_asm); (case hk => exact rfl); (case R => assumption); (case N => k_asm); (case P => (intro x hx; simp only [List.mem_singleton] at hx; subst hx; (try dsimp only); exact Ne.symm (by assumption))); (case hw => assumption); (case ho => assumption); (case d => first | exact room2 (by assumption) (by exact rfl) | exact room1 (by assumption) (by exact rfl) | omega | (dsimp only [ktrTop]; omega)); (case u => first | exact room2 (by assumption) (by exact rfl) | exact room1 (by assumption) (by exact rfl) | omega | (dsimp only [ktrTop]; omega))); intro _ _ _ _ _ _; tb_rel) | (k_here; (with_reducible show wpAny _ _ (call (Value.ref 187) _) _ _ _); k_dflt (refine' want_use (pre := [_]) ?B ?F ?X ?T ?hk ?R ?P ?N ?hw ?ne ?d ?u ?_; (case B => k_asm); (case F => k_asm); (case X => k_asm); (case T => k_asm); (case hk => exact rfl); (case R => assumption); (case N => k_asm); (case P => (intro x hx; simp only [List.mem_singleton] at hx; subst hx; (try dsimp only); exact Ne.symm (by assumption))); (case hw => assumption); (case ne => decide); (case d => first | exact room2 (by assumption) (by exact rfl) | exact room1 (by assumption) (by exact rfl) | omega | (dsimp only [ktrTop]; omega)); (case u => first | exact room2 (by assumption) (by exact rfl) | exact room1 (by assumption) (by exact rfl) | omega | (dsimp only [ktrTop]; omega))); intro _ _ _ _ _; tb_rel) | (k_here; (with_reducible show wpAny _ _ (call (Value.ref 180) _) _ _ _); k_dflt (refine' take_use (pre := [_]) ?B ?F ?X ?T ?hk ?R ?P ?N ?hw ?d ?u ?_; (case B => k_asm); (case F => k_asm); (case X => k_asm); (case T => k_asm); (case hk => exact rfl); (case R => assumption); (case N => k_asm); (case P => (intro x hx; simp only [List.mem_singleton] at hx; subst hx; (try dsimp only); exact Ne.symm (by assumption))); (case hw => assumption); (case d => first | exact room2 (by assumption) (by exact rfl) | exact room1 (by assumption) (by exact rfl) | omega | (dsimp only [ktrTop]; omega)); (case u => first | exact room2 (by assumption) (by exact rfl) | exact room1 (by assumption) (by exact rfl) | omega | (dsimp only [ktrTop]; omega))); intro _ _ _ _ _ _; tb_rel) | (k_here; (with_reducible show wpAny _ _ (call (Value.ref 173) _) _ _ _); k_dflt (refine' spot_use (pre := [_]) ?B ?F ?X ?T ?hk ?R ?N ?hw ?d ?u ?_; (case B => k_asm); (case F => k_asm); (case X => k_asm); (case T => k_asm); (case hk => exact rfl); (case R => assumption); (case N => k_asm); (case hw => assumption); (case d => first | exact room2 (by assumption) (by exact rfl) | exact room1 (by assumption) (by exact rfl) | omega | (dsimp only [ktrTop]; omega)); (case u => first | exact room2 (by assumption) (by exact rfl) | exact room1 (by assumption) (by exact rfl) | omega | (dsimp only [ktrTop]; omega))); intro _ _ _ _ _; tb_rel) | (k_here; (with_reducible show wpAny _ _ (call (Value.ref 166) _) _ _ _); k_dflt (refine' word_use (pre := [_]) ?B ?F ?X ?T ?hk ?R ?N ?hw ?d ?u ?_; (case B => k_asm); (case F => k_asm); (case X => k_asm); (case T => k_asm); (case hk => exact rfl); (case R => assumption); (case N => k_asm); (case hw => assumption); (case d => first | exact room2 (by assumption) (by exact rfl) | exact room1 (by assumption) (by exact rfl) | omega | (dsimp only [ktrTop]; omega)); (case u => first | exact room2 (by assumption) (by exact rfl) | exact room1 (by assumption) (by exact rfl) | omega | (dsimp only [ktrTop]; omega))); intro _ _ _ _ _; tb_rel) | (k_here; (with_reducible show wpAny _ _ (call (Value.ref 208) _) _ _ _); k_dflt (refine' close_use (pre := []) ?B ?F ?X ?T ?hk ?R ?P ?N ?hw ?hdp ?d ?u ?_; (case B => k_asm); (case F => k_asm); (case X => k_asm); (case T => k_asm); (case hk => exact rfl); (case R => assumption); (case P => simp); (case N => k_asm); (case hw => assumption); (case hdp => omega); (case d => first | exact room2 (by assumption) (by exact rfl) | exact room1 (by assumption) (by exact rfl) | omega | (dsimp only [ktrTop]; omega)); (case u => first | exact room2 (by assumption) (by exact rfl) | exact room1 (by assumption) (by exact rfl) | omega | (dsimp only [ktrTop]; omega))); intro _ _ _ _ _ _; tb_start) | (k_here; (with_reducible show wpAny _ _ (call (Value.ref 201) _) _ _ _); k_dflt (refine' begin_use (pre := []) ?B ?F ?X ?T ?hk ?R ?P ?N ?hw ?hdp ?d ?u ?_; (case B => k_asm); (case F => k_asm); (case X => k_asm); (case T => k_asm); (case hk => exact rfl); (case R => assumption); (case P => simp); (case N => k_asm); (case hw => assumption); (case hdp => omega); (case d => first | exact room2 (by assumption) (by exact rfl) | exact room1 (by assumption) (by exact rfl) | omega | (dsimp only [ktrTop]; omega)); (case u => first | exact room2 (by assumption) (by exact rfl) | exact room1 (by assumption) (by exact rfl) | omega | (dsimp only [ktrTop]; omega))); intro _ _ _ _ _ _; tb_start) | (k_here; (with_reducible show wpAny _ _ (call (Value.ref 194) _) _ _ _); k_dflt (refine' op_use (pre := []) ?B ?F ?X ?T ?hk ?R ?P ?N ?hw ?ho ?d ?u ?_; (case B => k_asm); (case F => k_asm); (case X => k_asm); (case T => k_asm); (case hk => exact rfl); (case R => assumption); (case P => simp); (case N => k_asm); (case hw => assumption); (case ho => assumption); (case d => first | exact room2 (by assumption) (by exact rfl) | exact room1 (by assumption) (by exact rfl) | omega | (dsimp only [ktrTop]; omega)); (case u => first | exact room2 (by assumption) (by exact rfl) | exact room1 (by assumption) (by exact rfl) | omega | (dsimp only [ktrTop]; omega))); intro _ _ _ _ _ _; tb_start) | (k_here; (with_reducible show wpAny _ _ (call (Value.ref 187) _) _ _ _); k_dflt (refine' want_use (pre := []) ?B ?F ?X ?T ?hk ?R ?P ?N ?hw ?ne ?d ?u ?_; (case B => k_asm); (case F => k_asm); (case X => k_asm); (case T => k_asm); (case hk => exact rfl); (case R => assumption); (case P => simp); (case N => k_asm); (case hw => assumption); (case ne => decide); (case d => first | exact room2 (by assumption) (by exact rfl) | exact room1 (by assumption) (by exact rfl) | omega | (dsimp only [ktrTop]; omega)); (case u => first | exact room2 (by assumption) (by exact rfl) | exact room1 (by assumption) (by exact rfl) | omega | (dsimp only [ktrTop]; omega))); intro _ _ _ _ _; tb_start) | (k_here; (with_reducible show wpAny _ _ (call (Value.ref 95) _) _ _ _); k_dflt (refine' isop_use ?B ?F ?X ?T ?hk ?N ?l ?d ?u ?_; (case B => k_asm); (case F => k_asm); (case X => k_asm); (case T => k_asm); (case hk => exact rfl); (case N => k_asm); (case l => (first | assumption | exact Nat.le_of_ble_eq_true rfl | omega)); (case d => first | exact room2 (by assumption) (by exact rfl) | exact room1 (by assumption) (by exact rfl) | omega | (dsimp only [ktrTop]; omega)); (case u => first | exact room2 (by assumption) (by exact rfl) | exact room1 (by assumption) (by exact rfl) | omega | (dsimp only [ktrTop]; omega))); intro _ _ _ _; (try k_sweep)) | (k_here; (with_reducible show wpAny _ _ (call (Value.ref 180) _) _ _ _); k_dflt (refine' take_use (pre := []) ?B ?F ?X ?T ?hk ?R ?P ?N ?hw ?d ?u ?_; (case B => k_asm); (case F => k_asm); (case X => k_asm); (case T => k_asm); (case hk => exact rfl); (case R => assumption); (case P => simp); (case N => k_asm); (case hw => assumption); (case d => first | exact room2 (by assumption) (by exact rfl) | exact room1 (by assumption) (by exact rfl) | omega | (dsimp only [ktrTop]; omega)); (case u => first | exact room2 (by assumption) (by exact rfl) | exact room1 (by assumption) (by exact rfl) | omega | (dsimp only [ktrTop]; omega))); intro _ _ _ _ _ _; tb_start) | (k_here; (with_reducible show wpAny _ _ (call (Value.ref 173) _) _ _ _); k_dflt (refine' spot_use (pre := []) ?B ?F ?X ?T ?hk ?R ?N ?hw ?d ?u ?_; (case B => k_asm); (case F => k_asm); (case X => k_asm); (case T => k_asm); (case hk => exact rfl); (case R => assumption); (case N => k_asm); (case hw => assumption); (case d => first | exact room2 (by assumption) (by exact rfl) | exact room1 (by assumption) (by exact rfl) | omega | (dsimp only [ktrTop]; omega)); (case u => first | exact room2 (by assumption) (by exact rfl) | exact room1 (by assumption) (by exact rfl) | omega | (dsimp only [ktrTop]; omega))); intro _ _ _ _ _; tb_start) | (k_here; (with_reducible show wpAny _ _ (call (Value.ref 166) _) _ _ _); k_dflt (refine' word_use (pre := []) ?B ?F ?X ?T ?hk ?R ?N ?hw ?d ?u ?_; (case B => k_asm); (case F => k_asm); (case X => k_asm); (case T => k_asm); (case hk => exact rfl); (case R => assumption); (case N => k_asm); (case hw => assumption); (case d => first | exact room2 (by assumption) (by exact rfl) | exact room1 (by assumption) (by exact rfl) | omega | (dsimp only [ktrTop]; omega)); (case u => first | exact room2 (by assumption) (by exact rfl) | exact room1 (by assumption) (by exact rfl) | omega | (dsimp only [ktrTop]; omega))); intro _ _ _ _ _; tb_start)) | walk1 | (dsimp only; first | walk1 | (k_unfold; (try dsimp only)))))))
      rename Fr g' _ _ _ => F7
      rename News g' _ _ _ => N7
      have hlen : 1 ≤ T2.toks.length := by rw [hx]; simp
      refine WhileStep.intro (n' := rest.length) F7 N7 (by simp) ⟨done ++ [T2], rest, _, _, tl6, ex6 ++ exj, _, _, _, _, by rw [hks]; simp, rfl, by rw [List.push_toArray], by rw [hxs]; rfl, ?_, R6, hs6, ?_, ?_, rfl, rfl, hat5, ?_, m6, h06⟩
      · rw [List.length_append, List.length_singleton]
        omega
      · exact (hinj.mono fun x h => List.mem_append_right _ h).snoc (hin6.mono fun x h => List.mem_append_left _ h)
      · intro x hx
        rcases List.mem_append.mp hx with hx | hx
        · exact hn6 x hx
        · exact hnj x hx
      · rw [← hpe]
        simp only [Tm.toksL, List.length_append]
        omega
theorem toks_pos : ∀ T : Tm, 0 < T.toks.length
  | .node o [] => by simp [Tm.toks]
  | .node o (T :: ks) => by simp [Tm.toks]
theorem toksL_mem : ∀ {ks : List Tm} {t : Tm}, t ∈ ks → t.toks.length ≤ (Tm.toksL ks).length
  | x :: r, t, hm => by
    simp only [Tm.toksL, List.length_append]
    rcases List.mem_cons.mp hm with rfl | hm
    · omega
    · have := toksL_mem hm
      omega
theorem term_le (n : Nat) : ∀ T : Tm, T.toks.length ≤ n → TermOk T := by
  induction n with
  | zero => exact fun T h => absurd (toks_pos T) (by omega)
  | succ n ih =>
    intro T h
    cases T with
    | node o ks =>
      cases ks with
      | nil => exact term_leaf o
      | cons T ks =>
        simp only [Tm.toks, List.length_cons, List.length_append, List.cons_append] at h
        exact term_node o T ks (ih T (by omega)) fun t ht => ih t (by have := toksL_mem ht; omega)
theorem term_all (T : Tm) : TermOk T := term_le _ T (Nat.le_refl _)
/- RInit -/
theorem freshRInit : True := by
  w_top off
  trivial
section
variable {w : World} {A₀ A : Around} {s : Shared} {base h₀ : Heap} {outer : List Env} {L a : Addr} {m : PySem.Str → Option Value} {news : List (Addr × Obj)} {mean : ExcName → Option Value} {mg mb : PySem.Str → Option Value}
  {cn : PySem.Str} {cs : Scope} {ccd : Value} {cl : List (PySem.Str × Addr)}
  {R : Result → Shared → Prop} {name qual : PySem.Str} {params : Arguments} {body body₀ : List Stmt} {scope scope₀ : Scope} {dV kV doc pm cdv ct oc : Value} {an od : Option Addr} {osl : Array (Option Value)} {f : Addr} {args : Args} {binds : List (PySem.Str × Value)}
/-- «enter» from any surroundings -/
theorem enterA (C : Cx w s.heap A₀ base h₀ cs outer L m mean mg mb) (N : News h₀ L s.heap news) (hA : A.frames = some (envX cn cs L a ccd cl :: outer))
    (ho : (Mine.hd.heap_39 w.params).lookup f = some ⟨oc, od, .func (fnOf name qual params body₀ scope₀ dV kV doc pm an cdv ct), osl⟩) (hcd : codeIn (Mine.hd.heap_39 w.params) cdv qual = true) (hroom : A.depth < recursionLimit)
    (hbind : BindsTo s (fnOf name qual params body scope dV kV doc pm an cdv ct) args binds) (hloc : ∀ y ∈ binds, scope.names.lookup y.1 = some .local)
    (h : ∀ g L' h₁, (∀ b o, b ∉ news.map (·.1) → s.heap.get? b = some o → g.get? b = some o) → (∀ b o, g.get? b = some o → s.heap.get? b = some o) → Fr g L' h₁ (bmap binds.reverse) → News g L' h₁ news → Below A base (envX cn cs L a ccd cl :: outer) g → (Mine.hd.heap_39 w.params).In g → Top Mine.hd.view_39 (looseW Mine.hd.view_39 []) mean mg mb g →
      wpAny (model Challenge.rw_rg0116_01.row.prog w) (A.deeper (envOf qual scope L' f cdv)) (execs body (envOf qual scope L' f cdv))
        (fun fl s' => R (.ok (.ret (match fl with | .ret v => v | _ => .none))) s')
        (fun e s' => wpAny (model Challenge.rw_rg0116_01.row.prog w) (A.deeper (envOf qual scope L' f cdv)) (leaving (envOf qual scope L' f cdv) e) (fun _ s'' => R (.error e) s'') (fun e' s'' => R (.error e') s'') s')
        { s with heap := h₁, toks := s.toks + binds.length })
    (hco : scope.isCoroutine = false) (hgen : scope.isGenerator = false) (hk : scope.kind = .function)
    (hcell : ∀ x ∈ scope.names, x.2 ≠ .cell) (eb : body₀ = body) (es : scope₀ = scope) : codeAny (model Challenge.rw_rg0116_01.row.prog w) A (.call (.ref f) args) R s := by
  obtain rfl := eb.symm
  obtain rfl := es.symm
  obtain ⟨FG, BG, st, lv⟩ := groundX (R := R) C.B C.F N hA rfl C.hk
  refine codeAny_call_def (fd := fnOf name qual params body scope dV kV doc pm an cdv ct) (body := body) (binds := binds) hroom ((C.X.keeps C.F.keep) _ _ ho) rfl (C.T.nolimit.keeps C.F.keep) (codeRec_of (C.X.keeps C.F.keep) hcd) rfl hbind hcell hloc (fun h₁ hns hk₁ => ?_) hco hgen hk
  exact h _ s.heap.objs.size h₁ (fun b o nb e => hideAll_get _ e nb) (fun b o e => of_hideAll _ e) ⟨by rw [bmap_lookup]; exact hns, fun b o e => hk₁ b o (of_hideAll _ e), Nat.le_of_eq (hideAll_size _ _)⟩
    (fun p hp => ⟨hk₁ _ _ (N p hp).1, Nat.ne_of_lt (Heap.lt_size (N p hp).1), hideAll_none _ (List.mem_map_of_mem hp)⟩) BG (C.X.keeps st) (C.T.keeps st)
end
section
variable {w : World} {A₀ : Around} {s : Shared} {base h₀ : Heap} {outer : List Env} {L a : Addr} {m : PySem.Str → Option Value} {mean : ExcName → Option Value} {mg mb : PySem.Str → Option Value} {Q : Value → Shared → Prop} {E : Value → Shared → Prop} {dp un : Nat} {gd : Option (List Code)} {cn : PySem.Str} {cs : Scope} {ccd : Value} {cll : List (PySem.Str × Addr)}
theorem words_use {t : PySem.Str} {xt : Tok} {news : List (Addr × Obj)} (B : Below A₀ base outer h₀) (F : Fr h₀ L s.heap m) (X : (Mine.hd.heap_39 w.params).In h₀) (T : Top Mine.hd.view_39 (looseW Mine.hd.view_39 []) mean mg mb h₀) (hk : cs.kind = .function)
    (N : News h₀ L s.heap news) (hlen : t.length ≤ 1000) (hd : dp + 20 < recursionLimit) (hu : un + 100 < cLine) (hgood : ∀ k, k < t.length → goodC (sgn t k) = true)
    (h : ∀ r vs n tl h' tk', Fr h₀ L h' m → News h₀ L h' (news ++ (r, PySem.W.listOf (vs : List Value).toArray n) :: tl) → s.heap.get? r = none → (∀ p ∈ tl, s.heap.get? p.1 = none) → (∀ p ∈ tl, p.1 ≠ r) → TupAll tl vs (wordsT t) → Kp [] s.heap h' → Q (.ref r) { s with heap := h', toks := tk' }) :
    wpAny (model Challenge.rw_rg0116_01.row.prog w) (ktrTop dp un gd cn cs L a ccd cll outer) (call (.ref 145) [.str t xt]) Q E s := by
  refine words_ok ⟨B, F, X, T, hk⟩ hlen hd hu (fun _ r vs n tl h' tk' kp hp hoff hT => ?_) (fun i hi hb _ => ?_)
  · refine h r vs n tl h' tk' (F.keeps (kp_nil kp)) (fun p hm => ?_) (hp _ (.head _)).2 (fun p hm => (hp p (.tail _ hm)).2) hoff hT kp
    rcases List.mem_append.mp hm with hm | hm
    · exact (N.grown (kp_nil kp)) p hm
    · refine ⟨(hp p hm).1, fun e => ?_, ?_⟩
      · have h1 := (hp p hm).2
        obtain ⟨o, _, _, ho, _⟩ := F.ns
        rw [e, ho] at h1
        cases h1
      · cases z : h₀.get? p.1 with
        | none => rfl
        | some o => have h1 := F.keep _ _ z; rw [(hp p hm).2] at h1; cases h1
  · rw [hgood i hi] at hb
    cases hb
theorem wordsT_sm {t : PySem.Str} (h : t.length ≤ 1000) : (wordsT t).length < 100000 := by
  have h1 := (toks_bound (op := opC) (pu := puC) _ t.cps.toList 0 (Nat.le_refl _)).1
  rw [len_list] at h1
  unfold wordsT
  rw [List.length_append, List.length_map, List.length_singleton]
  omega
theorem wordsT_ln {t : PySem.Str} (h : t.length ≤ 1000) : ∀ x ∈ wordsT t, x.1.length ≤ 1000 := by
  have h1 := (toks_bound (op := opC) (pu := puC) _ t.cps.toList 0 (Nat.le_refl _)).2
  intro x hx
  unfold wordsT at hx
  rcases List.mem_append.mp hx with hx | hx
  · obtain ⟨y, hy, rfl⟩ := List.mem_map.mp hx
    have h2 := h1 y hy
    rw [len_list] at h2
    show y.1.toArray.size ≤ 1000
    rw [List.size_toArray]
    omega
  · rw [List.mem_singleton.mp hx]
    exact Nat.zero_le _
set_option maxHeartbeats 4000000 in
theorem reader_ok {t : PySem.Str} {xt : Tok}
    (C : Cx w s.heap A₀ base h₀ cs outer L m mean mg mb) (hlen : t.length ≤ 1000) (hd : dp + 30 < recursionLimit) (hu : un + 150 < cLine) (hgood : ∀ k, k < t.length → goodC (sgn t k) = true)
    (hQ : ∀ rd dxr r k tp td vs n tl h' tk', Kp [] s.heap h' → (∀ x ∈ rdL rd dxr r k 0 0 tp td vs n tl, h'.get? x.1 = some x.2 ∧ s.heap.get? x.1 = none) → RdOk rd dxr r vs tl (wordsT t) → Q (.ref rd) { s with heap := h', toks := tk' }) :
    wpAny (model Challenge.rw_rg0116_01.row.prog w) (ktrTop dp un gd cn cs L a ccd cll outer) (call (.ref 258) [.str t xt]) Q E s := by
  have N : News h₀ L s.heap [] := News.nil
  have F := C.F
  have B := C.B
  have X := C.X
  have T := C.T
  have hk := C.hk
  have Xs := X.keeps F.keep
  obtain ⟨hh, g, dd, tt, os⟩ := s
  have hL : L < hh.objs.size := F.ns.lt
  have hi1 : findIn (Mine.hd.heap_39 w.params) (.ref 258) "__init__" = some (some (.ref 159)) := by k_is
  have hf1 : typeIn (Mine.hd.heap_39 w.params) (.ref 159) = some (.type "function") := by k_is
  have hm1 : makesIn (Mine.hd.heap_39 w.params) 258 = true := by k_is
  refine wpAny_call (make_core (makes_of Xs hm1) (looks_findIn Xs hi1) (fun self => bind_fn Xs self hf1) (.inl rfl) ?_)
  have up : ∀ b o, hh.get? b = some o → ((hh.push emptyDict).push (instObj 258 hh.objs.size)).get? b = some o := fun b o e => Heap.get?_push_of_some _ (Heap.get?_push_of_some _ e)
  have F1 := (F.push emptyDict).push (instObj 258 hh.objs.size)
  have N1 := (N.push F emptyDict).push (F.push emptyDict) (instObj 258 hh.objs.size)
  rw [Heap.size_push] at N1
  have nx : hh.get? (hh.objs.size + 1) = none := Heap.get?_none_of_le (Nat.le_succ _)
  have nd : hh.get? hh.objs.size = none := Heap.get?_none_of_le (Nat.le_refl _)
  have hxd : hh.objs.size + 1 ≠ hh.objs.size := Nat.succ_ne_self _
  generalize (hh.push emptyDict).push (instObj 258 hh.objs.size) = h2 at *
  generalize hh.objs.size + 1 = x at *
  generalize hh.objs.size = dx at *
  have C2 : Cx w (Shared.mk h2 g dd tt os).heap A₀ base h₀ cs outer L m mean mg mb := ⟨B, F1, X, T, hk⟩
  with_unfolding_all refine' enterA (s := ⟨h2, g, dd, tt, os⟩) (binds := [("self", .ref x), ("text", .str t xt)]) ?kC ?kN ?kA ?k6 ?k7 ?k8 ?k9 ?kB ?_ ?c2 ?c3 ?c4 ?c5 ?eb ?es
  k_dflt ( (case kC => assumption); (case kN => assumption); (case kA => exact rfl); (case k6 => k_is); (case eb => (conv => lhs; whnf)); (case es => (conv => lhs; whnf)); (case k7 => k_is); (case k8 => first | omega | (simp only [depth_under_make]; (try dsimp only [ktrTop]); omega) | k_room); (case k9 => exact BindsTo.of_eq rfl); (case kB => exact locs rfl); (case c2 => exact rfl); (case c3 => exact rfl); (case c4 => exact rfl); (case c5 => decide))
  clear F1 F N
  intro g' L' h' hg' hs' F' N' B' X' T'
  dsimp only [List.reverse, List.reverseAux, bmap, List.length] at F' ⊢
  k_fold
  (repeat' (first | (k_unfold; (try dsimp only)) | ((fail_if_success (with_reducible first | refine stop_at [76, 145] (by decide) ?_ | refine stop_st (by decide) ?_ | refine stop_bl (by decide) ?_ | refine stop_lc ?_ | refine stop_jp ?_ | show LCg.CompSrc _ _ _ _ _ _ _ _ _ _ _ _ _ _ | show LCt.CompSrcT _ _ _ _ _ _ _ _ _ _ _ _ _ _ _)); (first | walk1 | (dsimp only; first | walk1 | (k_unfold; (try dsimp only)))))))
  k_dflt (refine' words_use ?B ?F ?X ?T ?hk ?N hlen ?d ?u hgood ?_; (case B => k_asm); (case F => k_asm); (case X => k_asm); (case T => k_asm); (case hk => exact rfl); (case N => k_asm); (case d => first | exact room2 (by assumption) (by exact rfl) | exact room1 (by assumption) (by exact rfl) | omega | (dsimp only [ktrTop, depth_under_make]; omega) | (simp only [depth_under_make]; dsimp only [ktrTop]; omega)); (case u => (change un + 1 + 3 + 100 < cLine; omega)))
  intro r vs n tl h3 tk3 F3 N3 nr ntl hoff hT kp3
  dsimp only [List.cons_append, List.nil_append] at N3
  have up2 : ∀ b o, hh.get? b = some o → g'.get? b = some o := fun b o e => hg' b o (fun hm => by
    simp only [List.map_cons, List.map_nil, List.mem_cons, List.not_mem_nil, or_false] at hm
    rcases hm with z | z
    · rw [z, nx] at e; cases e
    · rw [z, nd] at e; cases e) (up b o e)
  have fresh0 : ∀ b, h'.get? b = none → hh.get? b = none := fun b hb => by
    cases z : hh.get? b with
    | none => rfl
    | some o => rw [F'.keep _ _ (up2 _ _ z)] at hb; cases hb
  have m1 : r ≠ dx := fun e => by rw [e, (N' _ (.tail _ (.head _))).1] at nr; cases nr
  have m2 : r ≠ x := fun e => by rw [e, (N' _ (.head _)).1] at nr; cases nr
  have m3 : ∀ p ∈ tl, p.1 ≠ dx := fun p hp e => by have h5 := ntl p hp; rw [e, (N' _ (.tail _ (.head _))).1] at h5; cases h5
  have m4 : ∀ p ∈ tl, p.1 ≠ x := fun p hp e => by have h5 := ntl p hp; rw [e, (N' _ (.head _)).1] at h5; cases h5
  (repeat' (first | (k_unfold; (try dsimp only)) | ((fail_if_success (with_reducible first | refine stop_at [76, 145] (by decide) ?_ | refine stop_st (by decide) ?_ | refine stop_bl (by decide) ?_ | refine stop_lc ?_ | refine stop_jp ?_ | show LCg.CompSrc _ _ _ _ _ _ _ _ _ _ _ _ _ _ | show LCt.CompSrcT _ _ _ _ _ _ _ _ _ _ _ _ _ _ _)); (first | walk1 | (dsimp only; first | walk1 | (k_unfold; (try dsimp only)))))))
  rename Fr g' _ _ _ => F9
  rename News g' _ _ _ => N9
  refine ⟨rfl, ?_⟩
  refine hQ x dx r ⟨_, _, _, _, _, _, _, _, _⟩ _ _ vs n tl _ _ (fun b o _ e => F9.keep b o (up2 b o e)) (fun p hp => ⟨(N9 p hp).1, ?_⟩) ⟨hT, hxd, m1, m3, wordsT_sm hlen, wordsT_ln hlen⟩
  simp only [rdL, List.mem_cons] at hp
  rcases hp with rfl | rfl | rfl | hp
  · exact nx
  · exact nd
  · exact fresh0 _ nr
  · exact fresh0 _ (ntl p hp)
end
/- Told -/
theorem freshTold : True := by
  w_top off
  trivial
section
variable {w : World} {A₀ : Around} {s : Shared} {base h₀ : Heap} {outer : List Env} {L a : Addr} {m : PySem.Str → Option Value} {mean : ExcName → Option Value} {mg mb : PySem.Str → Option Value} {Q : Value → Shared → Prop} {E : Value → Shared → Prop} {dp un : Nat} {gd : Option (List Code)} {cn : PySem.Str} {cs : Scope} {ccd : Value} {cll : List (PySem.Str × Addr)}
  {rd dxr r q : Addr} {k : RK} {p d : Nat} {tp td : Tok} {vs : List Value} {n : Nat} {pre tl : List (Addr × Obj)} {ws : List (PySem.Str × Int)} {wd : PySem.Str} {sp : Int} {t1 t2 : Tok}
theorem up_of {h₀ g g4 h h' : Heap} {L L' : Addr} {m' : PySem.Str → Option Value} {news news' : List (Addr × Obj)} {S fs : List Addr} (N : News h₀ L h news) (hg : ∀ b o, b ∉ news.map (·.1) → h.get? b = some o → g.get? b = some o) (KT : KtsTurn fs g g4) (F : Fr g4 L' h' m') (N' : News g4 L' h' news')
    (hsub : ∀ p ∈ news, p.1 ∉ S → p ∈ news') : Up fs S h h' := by
  have led : ∀ b o, b ∉ S → b ∈ news.map (·.1) → h.get? b = some o → h'.get? b = some o := fun b o nS hb e => by
    obtain ⟨p, hp, rfl⟩ := List.mem_map.mp hb
    have := (N p hp).1
    rw [e] at this
    cases this
    exact (N' _ (hsub p hp nS)).1
  refine ⟨fun b o nS nf e => ?_, fun b o nS e => ?_⟩
  · by_cases hb : b ∈ news.map (·.1)
    · exact led b o nS hb e
    · exact F.keep b o (KT.other b o (hg b o hb e) nf)
  · by_cases hb : b ∈ news.map (·.1)
    · exact ⟨o.slots, led b o nS hb e⟩
    · obtain ⟨sl, hs⟩ := KT.up (hg b o hb e)
      exact ⟨sl, F.keep b _ hs⟩
set_option maxHeartbeats 4000000 in
theorem refused_ok {x : PySem.Str} {tx tsp : Tok} (XB : (Mine.hd.heap_39 w.params).In base) (TB : Top Mine.hd.view_39 (looseW Mine.hd.view_39 []) mean mg mb base)
    (C : Cx w s.heap A₀ base h₀ cs outer L m mean mg mb) (R : RdOk rd dxr r vs tl ws) (N : News h₀ L s.heap (rdL rd dxr r k p d tp td vs n tl)) (hw : ws[p]? = some (wd, sp)) (hx : x.length ≤ 2000) (hne : x ≠ "") (hwx : wd ≠ x) (hd : dp + 40 < recursionLimit) (hu : un + 150 < cLine)
    (hQ : ∀ h' tk', Up (L :: outer.filterMap (·.frame)) [] s.heap h' → Q (.bool true) { s with heap := h', toks := tk' }) :
    wpAny (model Challenge.rw_rg0116_01.row.prog w) (ktrTop dp un gd cn cs L a ccd cll outer) (call (.ref 288) [.ref rd, .str x tx, .int sp tsp]) Q E s := by
  refine wpAny_call ?_
  with_unfolding_all refine' enter (binds := [("reader", .ref rd), ("word", .str x tx), ("spot", .int sp tsp)]) ?kC ?kN ?k6 ?k7 ?k8 ?k9 ?kB ?_ ?c2 ?c3 ?c4 ?c5 ?eb ?es
  k_dflt ((case kC => assumption); (case kN => assumption); (case k6 => k_is); (case eb => (conv => lhs; whnf)); (case es => (conv => lhs; whnf)); (case k7 => k_is); (case k8 => first | exact room0 (by assumption) | omega); (case k9 => exact BindsTo.of_eq rfl); (case c5 => decide); (case kB => exact locs rfl); (case c2 => exact rfl); (case c3 => exact rfl); (case c4 => exact rfl))
  intro g' L' h' hg' hs' F' N' B' X' T'
  dsimp only [List.reverse, List.reverseAux, bmap, List.length] at F' ⊢
  dsimp only [rdL] at N'
  k_fold
  (repeat' (first | (k_unfold; (try dsimp only)) | ((fail_if_success (with_reducible first | refine stop_at [76, 187, 145, 194] (by decide) ?_ | refine stop_ga ?_ | refine stop_st (by decide) ?_ | refine stop_bl (by decide) ?_ | refine stop_lc ?_ | refine stop_jp ?_ | show LCg.CompSrc _ _ _ _ _ _ _ _ _ _ _ _ _ _ | show LCt.CompSrcT _ _ _ _ _ _ _ _ _ _ _ _ _ _ _)); (first | walk1 | (dsimp only; first | walk1 | (k_unfold; (try dsimp only)))))))
  refine wpAny_Try_except ?_
  (repeat' (first | (k_unfold; (try dsimp only)) | ((fail_if_success (with_reducible first | refine stop_at [76, 187, 145, 194] (by decide) ?_ | refine stop_ga ?_ | refine stop_st (by decide) ?_ | refine stop_bl (by decide) ?_ | refine stop_lc ?_ | refine stop_jp ?_ | show LCg.CompSrc _ _ _ _ _ _ _ _ _ _ _ _ _ _ | show LCt.CompSrcT _ _ _ _ _ _ _ _ _ _ _ _ _ _ _)); (first | walk1 | (dsimp only; first | walk1 | (k_unfold; (try dsimp only)))))))
  k_dflt (refine' want_ok ⟨?B, ?F, ?X, ?T, ?hk⟩ R ?N hw hx hne ?d ?u ?q ?e; (case B => k_asm); (case F => k_asm); (case X => k_asm); (case T => k_asm); (case hk => exact rfl); (case N => k_asm); (case d => first | exact room2 (by assumption) (by exact rfl) | exact room1 (by assumption) (by exact rfl) | omega | (dsimp only [ktrTop]; omega)); (case u => first | exact room2 (by assumption) (by exact rfl) | exact room1 (by assumption) (by exact rfl) | omega | (dsimp only [ktrTop]; omega)); (case q => exact fun q => absurd q hwx))
  intro _ e h3 tk3 th
  obtain ⟨U, ne, a0, dx, T1, od, ti, nd, nT, hde, hTe, hdT, he, hd', hTr, hl⟩ := th
  have hod : ∀ vs, od.data ≠ .fields vs := fun vs hv => by
    unfold lookIn at hl
    rw [hv] at hl
    cases hl
  refine tf_catch XB TB rfl B' F' N' U he hd' hTr ne nd nT hde hTe hdT (fun h4 g4 T4 tk4 KT F4 N4 B4 X4 TT4 => ?_) rfl rfl rfl hod
  (repeat' (first | (k_unfold; (try dsimp only)) | ((fail_if_success (with_reducible first | refine stop_at [76, 187, 145, 194] (by decide) ?_ | refine stop_ga ?_ | refine stop_st (by decide) ?_ | refine stop_bl (by decide) ?_ | refine stop_lc ?_ | refine stop_jp ?_ | show LCg.CompSrc _ _ _ _ _ _ _ _ _ _ _ _ _ _ | show LCt.CompSrcT _ _ _ _ _ _ _ _ _ _ _ _ _ _ _)); (first | walk1 | (dsimp only; first | walk1 | (k_unfold; (try dsimp only)))))))
  rename Fr g4 _ _ _ => F5
  rename News g4 _ _ _ => N5
  refine tf_get (X4.keeps F5.keep) (N5 _ (.head _)).1 (N5 _ (.tail _ (.head _))).1 hl ?_
  (repeat' (first | (k_unfold; (try dsimp only)) | ((fail_if_success (with_reducible first | refine stop_at [76, 187, 145, 194] (by decide) ?_ | refine stop_ga ?_ | refine stop_st (by decide) ?_ | refine stop_bl (by decide) ?_ | refine stop_lc ?_ | refine stop_jp ?_ | show LCg.CompSrc _ _ _ _ _ _ _ _ _ _ _ _ _ _ | show LCt.CompSrcT _ _ _ _ _ _ _ _ _ _ _ _ _ _ _)); (first | walk1 | (dsimp only; first | walk1 | (k_unfold; (try dsimp only)))))))
  rename Fr g4 _ _ _ => F6
  rename News g4 _ _ _ => N6
  rw [show (sp == sp) = true by simp]
  exact hQ _ _ (up_of N hg' KT F6 N6 (fun p hp _ => .tail _ (.tail _ hp)))
set_option maxHeartbeats 4000000 in
theorem noop_ok {tsp : Tok} (XB : (Mine.hd.heap_39 w.params).In base) (TB : Top Mine.hd.view_39 (looseW Mine.hd.view_39 []) mean mg mb base)
    (C : Cx w s.heap A₀ base h₀ cs outer L m mean mg mb) (R : RdOk rd dxr r vs tl ws) (N : News h₀ L s.heap (rdL rd dxr r k p d tp td vs n tl)) (hw : ws[p]? = some (wd, sp)) (hwx : isOp wd = false) (hd : dp + 40 < recursionLimit) (hu : un + 150 < cLine)
    (hQ : ∀ h' tk', Up (L :: outer.filterMap (·.frame)) [] s.heap h' → Q (.bool true) { s with heap := h', toks := tk' }) :
    wpAny (model Challenge.rw_rg0116_01.row.prog w) (ktrTop dp un gd cn cs L a ccd cll outer) (call (.ref 295) [.ref rd, .int sp tsp]) Q E s := by
  refine wpAny_call ?_
  with_unfolding_all refine' enter (binds := [("reader", .ref rd), ("spot", .int sp tsp)]) ?kC ?kN ?k6 ?k7 ?k8 ?k9 ?kB ?_ ?c2 ?c3 ?c4 ?c5 ?eb ?es
  k_dflt ((case kC => assumption); (case kN => assumption); (case k6 => k_is); (case eb => (conv => lhs; whnf)); (case es => (conv => lhs; whnf)); (case k7 => k_is); (case k8 => first | exact room0 (by assumption) | omega); (case k9 => exact BindsTo.of_eq rfl); (case c5 => decide); (case kB => exact locs rfl); (case c2 => exact rfl); (case c3 => exact rfl); (case c4 => exact rfl))
  intro g' L' h' hg' hs' F' N' B' X' T'
  dsimp only [List.reverse, List.reverseAux, bmap, List.length] at F' ⊢
  dsimp only [rdL] at N'
  k_fold
  (repeat' (first | (k_unfold; (try dsimp only)) | ((fail_if_success (with_reducible first | refine stop_at [76, 187, 145, 194] (by decide) ?_ | refine stop_ga ?_ | refine stop_st (by decide) ?_ | refine stop_bl (by decide) ?_ | refine stop_lc ?_ | refine stop_jp ?_ | show LCg.CompSrc _ _ _ _ _ _ _ _ _ _ _ _ _ _ | show LCt.CompSrcT _ _ _ _ _ _ _ _ _ _ _ _ _ _ _)); (first | walk1 | (dsimp only; first | walk1 | (k_unfold; (try dsimp only)))))))
  refine wpAny_Try_except ?_
  (repeat' (first | (k_unfold; (try dsimp only)) | ((fail_if_success (with_reducible first | refine stop_at [76, 187, 145, 194] (by decide) ?_ | refine stop_ga ?_ | refine stop_st (by decide) ?_ | refine stop_bl (by decide) ?_ | refine stop_lc ?_ | refine stop_jp ?_ | show LCg.CompSrc _ _ _ _ _ _ _ _ _ _ _ _ _ _ | show LCt.CompSrcT _ _ _ _ _ _ _ _ _ _ _ _ _ _ _)); (first | walk1 | (dsimp only; first | walk1 | (k_unfold; (try dsimp only)))))))
  k_dflt (refine' op_ok ⟨?B, ?F, ?X, ?T, ?hk⟩ R ?N hw ?d ?u ?q ?e; (case B => k_asm); (case F => k_asm); (case X => k_asm); (case T => k_asm); (case hk => exact rfl); (case N => k_asm); (case d => first | exact room2 (by assumption) (by exact rfl) | exact room1 (by assumption) (by exact rfl) | omega | (dsimp only [ktrTop]; omega)); (case u => first | exact room2 (by assumption) (by exact rfl) | exact room1 (by assumption) (by exact rfl) | omega | (dsimp only [ktrTop]; omega)); (case q => exact fun q => absurd (q.symm.trans hwx) (by decide)))
  intro _ e h3 tk3 th
  obtain ⟨U, ne, a0, dx, T1, od, ti, nd, nT, hde, hTe, hdT, he, hd', hTr, hl⟩ := th
  have hod : ∀ vs, od.data ≠ .fields vs := fun vs hv => by
    unfold lookIn at hl
    rw [hv] at hl
    cases hl
  refine tf_catch XB TB rfl B' F' N' U he hd' hTr ne nd nT hde hTe hdT (fun h4 g4 T4 tk4 KT F4 N4 B4 X4 TT4 => ?_) rfl rfl rfl hod
  (repeat' (first | (k_unfold; (try dsimp only)) | ((fail_if_success (with_reducible first | refine stop_at [76, 187, 145, 194] (by decide) ?_ | refine stop_ga ?_ | refine stop_st (by decide) ?_ | refine stop_bl (by decide) ?_ | refine stop_lc ?_ | refine stop_jp ?_ | show LCg.CompSrc _ _ _ _ _ _ _ _ _ _ _ _ _ _ | show LCt.CompSrcT _ _ _ _ _ _ _ _ _ _ _ _ _ _ _)); (first | walk1 | (dsimp only; first | walk1 | (k_unfold; (try dsimp only)))))))
  rename Fr g4 _ _ _ => F5
  rename News g4 _ _ _ => N5
  refine tf_get (X4.keeps F5.keep) (N5 _ (.head _)).1 (N5 _ (.tail _ (.head _))).1 hl ?_
  (repeat' (first | (k_unfold; (try dsimp only)) | ((fail_if_success (with_reducible first | refine stop_at [76, 187, 145, 194] (by decide) ?_ | refine stop_ga ?_ | refine stop_st (by decide) ?_ | refine stop_bl (by decide) ?_ | refine stop_lc ?_ | refine stop_jp ?_ | show LCg.CompSrc _ _ _ _ _ _ _ _ _ _ _ _ _ _ | show LCt.CompSrcT _ _ _ _ _ _ _ _ _ _ _ _ _ _ _)); (first | walk1 | (dsimp only; first | walk1 | (k_unfold; (try dsimp only)))))))
  rename Fr g4 _ _ _ => F6
  rename News g4 _ _ _ => N6
  rw [show (sp == sp) = true by simp]
  exact hQ _ _ (up_of N hg' KT F6 N6 (fun p hp _ => .tail _ (.tail _ hp)))
set_option maxHeartbeats 4000000 in
theorem told_ok {t : PySem.Str} {xt : Tok} (XB : (Mine.hd.heap_39 w.params).In base) (TB : Top Mine.hd.view_39 (looseW Mine.hd.view_39 []) mean mg mb base)
    (C : Cx w s.heap A₀ base h₀ cs outer L m mean mg mb) (hlen : t.length ≤ 1000) (hd : dp + 40 < recursionLimit) (hu : un + 150 < cLine)
    (hQ : (∀ k, k < t.length → goodC (sgn t k) = true) → ∀ r vs n tl h' tk', Kp [] s.heap h' → (∀ p ∈ (r, PySem.W.listOf (vs : List Value).toArray n) :: tl, h'.get? p.1 = some p.2 ∧ s.heap.get? p.1 = none) → (∀ p ∈ tl, p.1 ≠ r) → TupAll tl vs (wordsT t) → Q (.ref r) { s with heap := h', toks := tk' })
    (hE : ∀ i : Nat, i < t.length → goodC (sgn t i) = false → (∀ k, k < i → goodC (sgn t k) = true) → ∀ h' tk' ti, Up (L :: outer.filterMap (·.frame)) [] s.heap h' → Q (.int i ti) { s with heap := h', toks := tk' }) :
    wpAny (model Challenge.rw_rg0116_01.row.prog w) (ktrTop dp un gd cn cs L a ccd cll outer) (call (.ref 281) [.str t xt]) Q E s := by
  have N : News h₀ L s.heap [] := News.nil
  refine wpAny_call ?_
  with_unfolding_all refine' enter (binds := [("text", .str t xt)]) ?kC ?kN ?k6 ?k7 ?k8 ?k9 ?kB ?_ ?c2 ?c3 ?c4 ?c5 ?eb ?es
  k_dflt ((case kC => assumption); (case kN => assumption); (case k6 => k_is); (case eb => (conv => lhs; whnf)); (case es => (conv => lhs; whnf)); (case k7 => k_is); (case k8 => first | exact room0 (by assumption) | omega); (case k9 => exact BindsTo.of_eq rfl); (case c5 => decide); (case kB => exact locs rfl); (case c2 => exact rfl); (case c3 => exact rfl); (case c4 => exact rfl))
  intro g' L' h' hg' hs' F' N' B' X' T'
  dsimp only [List.reverse, List.reverseAux, bmap, List.length] at F' ⊢
  k_fold
  (repeat' (first | (k_unfold; (try dsimp only)) | ((fail_if_success (with_reducible first | refine stop_at [76, 187, 145, 194] (by decide) ?_ | refine stop_ga ?_ | refine stop_st (by decide) ?_ | refine stop_bl (by decide) ?_ | refine stop_lc ?_ | refine stop_jp ?_ | show LCg.CompSrc _ _ _ _ _ _ _ _ _ _ _ _ _ _ | show LCt.CompSrcT _ _ _ _ _ _ _ _ _ _ _ _ _ _ _)); (first | walk1 | (dsimp only; first | walk1 | (k_unfold; (try dsimp only)))))))
  refine wpAny_Try_except ?_
  (repeat' (first | (k_unfold; (try dsimp only)) | ((fail_if_success (with_reducible first | refine stop_at [76, 187, 145, 194] (by decide) ?_ | refine stop_ga ?_ | refine stop_st (by decide) ?_ | refine stop_bl (by decide) ?_ | refine stop_lc ?_ | refine stop_jp ?_ | show LCg.CompSrc _ _ _ _ _ _ _ _ _ _ _ _ _ _ | show LCt.CompSrcT _ _ _ _ _ _ _ _ _ _ _ _ _ _ _)); (first | walk1 | (dsimp only; first | walk1 | (k_unfold; (try dsimp only)))))))
  k_dflt (refine' words_ok ⟨?B, ?F, ?X, ?T, ?hk⟩ hlen ?d ?u ?q ?e; (case B => k_asm); (case F => k_asm); (case X => k_asm); (case T => k_asm); (case hk => exact rfl); (case d => first | exact room2 (by assumption) (by exact rfl) | exact room1 (by assumption) (by exact rfl) | omega | (dsimp only [ktrTop]; omega)); (case u => first | exact room2 (by assumption) (by exact rfl) | exact room1 (by assumption) (by exact rfl) | omega | (dsimp only [ktrTop]; omega)))
  · intro hgd r vs n tl h3 tk3 kp hp hoff hT
    (repeat' (first | (k_unfold; (try dsimp only)) | ((fail_if_success (with_reducible first | refine stop_at [76, 187, 145, 194] (by decide) ?_ | refine stop_ga ?_ | refine stop_st (by decide) ?_ | refine stop_bl (by decide) ?_ | refine stop_lc ?_ | refine stop_jp ?_ | show LCg.CompSrc _ _ _ _ _ _ _ _ _ _ _ _ _ _ | show LCt.CompSrcT _ _ _ _ _ _ _ _ _ _ _ _ _ _ _)); (first | walk1 | (dsimp only; first | walk1 | (k_unfold; (try dsimp only)))))))
    have k1 : Kp [] s.heap h' := fun b o _ e => F'.keep b o (hg' b o (by simp) e)
    exact hQ hgd r vs n tl h3 _ (k1.trans kp) (fun p hm => ⟨(hp p hm).1, kp_none k1 (by simp) (hp p hm).2⟩) hoff hT
  · intro i hi hb hgd e h3 tk3 th
    obtain ⟨U, ne, a0, dx, T1, od, ti, nd, nT, hde, hTe, hdT, he, hd', hTr, hl⟩ := th
    have hod : ∀ vs, od.data ≠ .fields vs := fun vs hv => by
      unfold lookIn at hl
      rw [hv] at hl
      cases hl
    refine tf_catch XB TB rfl B' F' N' U he hd' hTr ne nd nT hde hTe hdT (fun h4 g4 T4 tk4 KT F4 N4 B4 X4 TT4 => ?_) rfl rfl rfl hod
    (repeat' (first | (k_unfold; (try dsimp only)) | ((fail_if_success (with_reducible first | refine stop_at [76, 187, 145, 194] (by decide) ?_ | refine stop_ga ?_ | refine stop_st (by decide) ?_ | refine stop_bl (by decide) ?_ | refine stop_lc ?_ | refine stop_jp ?_ | show LCg.CompSrc _ _ _ _ _ _ _ _ _ _ _ _ _ _ | show LCt.CompSrcT _ _ _ _ _ _ _ _ _ _ _ _ _ _ _)); (first | walk1 | (dsimp only; first | walk1 | (k_unfold; (try dsimp only)))))))
    rename Fr g4 _ _ _ => F5
    rename News g4 _ _ _ => N5
    refine tf_get (X4.keeps F5.keep) (N5 _ (.head _)).1 (N5 _ (.tail _ (.head _))).1 hl ?_
    (repeat' (first | (k_unfold; (try dsimp only)) | ((fail_if_success (with_reducible first | refine stop_at [76, 187, 145, 194] (by decide) ?_ | refine stop_ga ?_ | refine stop_st (by decide) ?_ | refine stop_bl (by decide) ?_ | refine stop_lc ?_ | refine stop_jp ?_ | show LCg.CompSrc _ _ _ _ _ _ _ _ _ _ _ _ _ _ | show LCt.CompSrcT _ _ _ _ _ _ _ _ _ _ _ _ _ _ _)); (first | walk1 | (dsimp only; first | walk1 | (k_unfold; (try dsimp only)))))))
    rename Fr g4 _ _ _ => F6
    rename News g4 _ _ _ => N6
    exact hE i hi hb hgd _ _ _ (up_of N hg' KT F6 N6 (fun p hp _ => nomatch hp))
end
/- Taken -/
theorem freshTaken : True := by
  w_top off
  trivial
theorem Up.kp {fs S : List Addr} {h h' : Heap} (k : Kp S h h') : Up fs S h h' := ⟨fun b o n _ e => k b o n e, fun b o n e => ⟨o.slots, k b o n e⟩⟩
section
variable {A₀ : Around} {base g hc h : Heap} {outer : List Env} {L : Addr} {m : PySem.Str → Option Value} {xs : List Addr}
/-- a new ground behind a call that has caught: what xs names is not the ground's -/
theorem regroundX (K : Below A₀ base outer g) (F : Fr g L hc m) (U : Up (L :: outer.filterMap (·.frame)) xs hc h) (hx : ∀ a ∈ xs, g.get? a = none) (hxL : L ∉ xs) :
    ∃ g', KtsTurn (outer.filterMap (·.frame)) g g' ∧ Fr g' L h m ∧ Below A₀ base outer g' ∧ (∀ b o, b ∉ xs → hc.get? b = some o → b ≠ L → g.get? b = none → h.get? b = some o ∧ g'.get? b = none) := by
  have nL : ∀ b o, g.get? b = some o → b ≠ L := fun b o e q => by rw [q, kts_self F] at e; cases e
  have nx : ∀ b o, g.get? b = some o → b ∉ xs := fun b o e q => by rw [hx b q] at e; cases e
  obtain ⟨T, S⟩ := kts_turn_at (h := h) (fs := outer.filterMap (·.frame)) (g := g)
    (fun b hb => by
      obtain ⟨_, o, ho, _⟩ := K.frames.mem hb
      exact ⟨o, ho⟩)
    (fun b o e nm => U.keep b o (nx b o e) (by
      simp only [List.mem_cons, not_or]
      exact ⟨nL b o e, nm⟩) (F.keep b o e))
    (fun b o e _ => U.fram b o (nx b o e) (F.keep b o e))
  obtain ⟨oL, es, ep, hL, hLd, hLr⟩ := F.ns
  obtain ⟨slL, hL'⟩ := U.fram L oL hxL hL
  refine ⟨_, T, ⟨⟨_, es, ep, hL', hLd, hLr⟩, S, by rw [T.size]; exact F.above⟩, ⟨K.stack, fun b o e => T.other b o (K.stays b o e) (fun hm => by
    rw [(K.frames.mem hm).1] at e
    cases e), K.frames.of_keeps fun b o e _ => ?_⟩, fun b o hb e hbL hg => ⟨U.keep b o hb ?_ e, T.none_ _ hg⟩⟩
  · obtain ⟨sl, hs⟩ := T.up e
    exact ⟨_, hs, rfl⟩
  · simp only [List.mem_cons, not_or]
    refine ⟨hbL, fun hm => ?_⟩
    obtain ⟨_, o2, ho, _⟩ := K.frames.mem hm
    rw [hg] at ho
    cases ho
end
section
variable {w : World} {A₀ : Around} {s : Shared} {base h₀ : Heap} {outer : List Env} {L a : Addr} {m : PySem.Str → Option Value} {mean : ExcName → Option Value} {mg mb : PySem.Str → Option Value} {Q : Value → Shared → Prop} {E : Value → Shared → Prop} {dp un : Nat} {gd : Option (List Code)} {cn : PySem.Str} {cs : Scope} {ccd : Value} {cll : List (PySem.Str × Addr)}
  {rd dxr r q : Addr} {k : RK} {p d : Nat} {tp td : Tok} {vs : List Value} {n : Nat} {pre tl news : List (Addr × Obj)} {ws : List (PySem.Str × Int)} {wd : PySem.Str} {sp : Int} {t1 t2 : Tok}
theorem refused_use {x : PySem.Str} {tx tsp : Tok} (XB : (Mine.hd.heap_39 w.params).In base) (TB : Top Mine.hd.view_39 (looseW Mine.hd.view_39 []) mean mg mb base)
    (B : Below A₀ base outer h₀) (F : Fr h₀ L s.heap m) (X : (Mine.hd.heap_39 w.params).In h₀) (T : Top Mine.hd.view_39 (looseW Mine.hd.view_39 []) mean mg mb h₀) (hk : cs.kind = .function)
    (R : RdOk rd dxr r vs tl ws) (N : News h₀ L s.heap (rdL rd dxr r k p d tp td vs n tl)) (hw : ws[p]? = some (wd, sp)) (hx : x.length ≤ 2000) (hne : x ≠ "") (hwx : wd ≠ x) (hd : dp + 40 < recursionLimit) (hu : un + 150 < cLine)
    (h : ∀ g' h' tk', KtsTurn (outer.filterMap (·.frame)) h₀ g' → Fr g' L h' m → News g' L h' (rdL rd dxr r k p d tp td vs n tl) → Below A₀ base outer g' → (Mine.hd.heap_39 w.params).In g' → Top Mine.hd.view_39 (looseW Mine.hd.view_39 []) mean mg mb g' → Q (.bool true) { s with heap := h', toks := tk' }) :
    wpAny (model Challenge.rw_rg0116_01.row.prog w) (ktrTop dp un gd cn cs L a ccd cll outer) (call (.ref 288) [.ref rd, .str x tx, .int sp tsp]) Q E s := by
  refine refused_ok XB TB ⟨B, F, X, T, hk⟩ R N hw hx hne hwx hd hu (fun h' tk' U => ?_)
  obtain ⟨g', KT, F', B', K⟩ := regroundX B F U (by simp) (by simp)
  exact h g' h' tk' KT F' (fun p hp => have z := K p.1 p.2 (by simp) (N p hp).1 (N p hp).2.1 (N p hp).2.2; ⟨z.1, (N p hp).2.1, z.2⟩) B' (XB.keeps B'.stays) (TB.keeps B'.stays)
theorem noop_use {tsp : Tok} (XB : (Mine.hd.heap_39 w.params).In base) (TB : Top Mine.hd.view_39 (looseW Mine.hd.view_39 []) mean mg mb base)
    (B : Below A₀ base outer h₀) (F : Fr h₀ L s.heap m) (X : (Mine.hd.heap_39 w.params).In h₀) (T : Top Mine.hd.view_39 (looseW Mine.hd.view_39 []) mean mg mb h₀) (hk : cs.kind = .function)
    (R : RdOk rd dxr r vs tl ws) (N : News h₀ L s.heap news) (hsub : ∀ x ∈ rdL rd dxr r k p d tp td vs n tl, x ∈ news) (hw : ws[p]? = some (wd, sp)) (hwx : isOp wd = false) (hd : dp + 40 < recursionLimit) (hu : un + 150 < cLine)
    (h : ∀ g' h' tk', KtsTurn (outer.filterMap (·.frame)) h₀ g' → Fr g' L h' m → News g' L h' news → Below A₀ base outer g' → (Mine.hd.heap_39 w.params).In g' → Top Mine.hd.view_39 (looseW Mine.hd.view_39 []) mean mg mb g' → Q (.bool true) { s with heap := h', toks := tk' }) :
    wpAny (model Challenge.rw_rg0116_01.row.prog w) (ktrTop dp un gd cn cs L a ccd cll outer) (call (.ref 295) [.ref rd, .int sp tsp]) Q E s := by
  refine noop_ok XB TB ⟨B, F, X, T, hk⟩ R (fun x hx => N x (hsub x hx)) hw hwx hd hu (fun h' tk' U => ?_)
  obtain ⟨g', KT, F', B', K⟩ := regroundX B F U (by simp) (by simp)
  exact h g' h' tk' KT F' (fun p hp => have z := K p.1 p.2 (by simp) (N p hp).1 (N p hp).2.1 (N p hp).2.2; ⟨z.1, (N p hp).2.1, z.2⟩) B' (XB.keeps B'.stays) (TB.keeps B'.stays)
theorem add_x_ne (wd : PySem.Str) : wd ≠ wd ++ ("x" : PySem.Str) := fun e => by
  have := congrArg PySem.Str.length e
  rw [Str.length_append] at this
  have h1 : ("x" : PySem.Str).length = 1 := by decide +kernel
  omega
theorem add_x_nil (wd : PySem.Str) : wd ++ ("x" : PySem.Str) ≠ "" := fun e => by
  have := congrArg PySem.Str.length e
  rw [Str.length_append] at this
  have h1 : ("x" : PySem.Str).length = 1 := by decide +kernel
  have h2 : ("" : PySem.Str).length = 0 := by decide +kernel
  omega
theorem add_x_len {wd : PySem.Str} (h : wd.length ≤ 1000) : (wd ++ ("x" : PySem.Str)).length ≤ 2000 := by
  rw [Str.length_append]
  have h1 : ("x" : PySem.Str).length = 1 := by decide +kernel
  omega
theorem mark_noop {wd : PySem.Str} (h : ([("(" : PySem.Str), ")", ",", ":"].any fun x => x == wd) = true) : isOp wd = false ∧ wd ≠ "" := by
  simp only [List.any_cons, List.any_nil, Bool.or_false, Bool.or_eq_true, beq_iff_eq] at h
  rcases h with rfl | rfl | rfl | rfl
  all_goals exact ⟨by decide +kernel, by decide +kernel⟩
theorem not_mark {wd : PySem.Str} (h : ([("(" : PySem.Str), ")", ",", ":"].any fun x => x == wd) = false) : ¬ wd ∈ [("(" : PySem.Str), ")", ",", ":"] := fun hm => by
  have : ([("(" : PySem.Str), ")", ",", ":"].any fun x => x == wd) = true := List.any_eq_true.mpr ⟨wd, hm, by simp⟩
  rw [h] at this
  cases this
set_option maxHeartbeats 4000000 in
theorem taken_ok {tw tsp : Tok} (XB : (Mine.hd.heap_39 w.params).In base) (TB : Top Mine.hd.view_39 (looseW Mine.hd.view_39 []) mean mg mb base)
    (C : Cx w s.heap A₀ base h₀ cs outer L m mean mg mb) (R : RdOk rd dxr r vs tl ws) (N : News h₀ L s.heap (rdL rd dxr r k p d tp td vs n tl)) (hw : ws[p]? = some (wd, sp)) (hgood : wd ∈ [("(" : PySem.Str), ")", ",", ":"] ∨ isOp wd = true) (hd : dp + 60 < recursionLimit) (hu : un + 200 < cLine)
    (hQ : ∀ h' tk' tp', Up (L :: outer.filterMap (·.frame)) [dxr] s.heap h' → h'.get? dxr = some (rdDict k r (p + 1 : Nat) d tp' td) → Q (.bool true) { s with heap := h', toks := tk' }) :
    wpAny (model Challenge.rw_rg0116_01.row.prog w) (ktrTop dp un gd cn cs L a ccd cll outer) (call (.ref 302) [.ref rd, .str wd tw, .int sp tsp]) Q E s := by
  have wlen : wd.length ≤ 1000 := R.ln _ (List.mem_of_getElem? hw)
  refine wpAny_call ?_
  with_unfolding_all refine' enter (binds := [("reader", .ref rd), ("word", .str wd tw), ("spot", .int sp tsp)]) ?kC ?kN ?k6 ?k7 ?k8 ?k9 ?kB ?_ ?c2 ?c3 ?c4 ?c5 ?eb ?es
  k_dflt ((case kC => assumption); (case kN => assumption); (case k6 => k_is); (case eb => (conv => lhs; whnf)); (case es => (conv => lhs; whnf)); (case k7 => k_is); (case k8 => first | exact room0 (by assumption) | omega); (case k9 => exact BindsTo.of_eq rfl); (case c5 => decide); (case kB => exact locs rfl); (case c2 => exact rfl); (case c3 => exact rfl); (case c4 => exact rfl))
  intro g' L' h' hg' hs' F' N' B' X' T'
  dsimp only [List.reverse, List.reverseAux, bmap, List.length] at F' ⊢
  dsimp only [rdL] at N'
  k_fold
  (repeat' (first | (k_unfold; (try dsimp only)) | ((fail_if_success (with_reducible first | refine stop_at [76, 288, 295, 187, 194] (by decide) ?_ | refine stop_st (by decide) ?_ | refine stop_bl (by decide) ?_ | refine stop_lc ?_ | refine stop_jp ?_ | show LCg.CompSrc _ _ _ _ _ _ _ _ _ _ _ _ _ _ | show LCt.CompSrcT _ _ _ _ _ _ _ _ _ _ _ _ _ _ _)); (first | ((with_reducible refine stop_cr ?_); first | (k_here; (with_reducible show wpAny _ _ (call (Value.ref 95) _) _ _ _); k_dflt (refine' isop_use ?B ?F ?X ?T ?hk ?N ?l ?d ?u ?_; (case B => k_asm); (case F => k_asm); (case X => k_asm); (case T => k_asm); (case hk => exact rfl); (case N => k_asm); (case l => (first | assumption | exact Nat.le_of_ble_eq_true rfl | omega)); (case d => first | exact room2 (by assumption) (by exact rfl) | exact room1 (by assumption) (by exact rfl) | omega | (dsimp only [ktrTop]; omega)); (case u => first | exact room2 (by assumption) (by exact rfl) | exact room1 (by assumption) (by exact rfl) | omega | (dsimp only [ktrTop]; omega))); intro _ _ _ _; (try k_sweep)) | (k_here; (with_reducible show wpAny _ _ (call (Value.ref 173) _) _ _ _); k_dflt (refine' spot_use (pre := []) ?B ?F ?X ?T ?hk ?R ?N ?hw ?d ?u ?_; (case B => k_asm); (case F => k_asm); (case X => k_asm); (case T => k_asm); (case hk => exact rfl); (case R => assumption); (case N => k_asm); (case hw => assumption); (case d => first | exact room2 (by assumption) (by exact rfl) | exact room1 (by assumption) (by exact rfl) | omega | (dsimp only [ktrTop]; omega)); (case u => first | exact room2 (by assumption) (by exact rfl) | exact room1 (by assumption) (by exact rfl) | omega | (dsimp only [ktrTop]; omega))); intro _ _ _ _ _; tb_start) | (k_here; (with_reducible show wpAny _ _ (call (Value.ref 166) _) _ _ _); k_dflt (refine' word_use (pre := []) ?B ?F ?X ?T ?hk ?R ?N ?hw ?d ?u ?_; (case B => k_asm); (case F => k_asm); (case X => k_asm); (case T => k_asm); (case hk => exact rfl); (case R => assumption); (case N => k_asm); (case hw => assumption); (case d => first | exact room2 (by assumption) (by exact rfl) | exact room1 (by assumption) (by exact rfl) | omega | (dsimp only [ktrTop]; omega)); (case u => first | exact room2 (by assumption) (by exact rfl) | exact room1 (by assumption) (by exact rfl) | omega | (dsimp only [ktrTop]; omega))); intro _ _ _ _ _; tb_start)) | walk1 | (dsimp only; first | walk1 | (k_unfold; (try dsimp only)))))))
  · rename (wd != wd) = true => hz
    simp at hz
  · rename sp ≠ sp => hz
    exact absurd rfl hz
  k_dflt (refine' refused_use XB TB ?B ?F ?X ?T ?hk ?R ?N hw (add_x_len wlen) (add_x_nil wd) (add_x_ne wd) ?d ?u ?_; (case B => k_asm); (case F => k_asm); (case X => k_asm); (case T => k_asm); (case hk => exact rfl); (case R => assumption); (case N => k_asm); (case d => first | exact room2 (by assumption) (by exact rfl) | exact room1 (by assumption) (by exact rfl) | omega | (dsimp only [ktrTop]; omega)); (case u => first | exact room2 (by assumption) (by exact rfl) | exact room1 (by assumption) (by exact rfl) | omega | (dsimp only [ktrTop]; omega)))
  intro g2 h2 tk2 K2 F2 N2 B2 X2 T2
  dsimp only [rdL] at N2
  (repeat' (first | (k_unfold; (try dsimp only)) | ((fail_if_success (with_reducible first | refine stop_at [76, 288, 295, 187, 194] (by decide) ?_ | refine stop_st (by decide) ?_ | refine stop_bl (by decide) ?_ | refine stop_lc ?_ | refine stop_jp ?_ | show LCg.CompSrc _ _ _ _ _ _ _ _ _ _ _ _ _ _ | show LCt.CompSrcT _ _ _ _ _ _ _ _ _ _ _ _ _ _ _)); (first | ((with_reducible refine stop_cr ?_); first | (k_here; (with_reducible show wpAny _ _ (call (Value.ref 95) _) _ _ _); k_dflt (refine' isop_use ?B ?F ?X ?T ?hk ?N ?l ?d ?u ?_; (case B => k_asm); (case F => k_asm); (case X => k_asm); (case T => k_asm); (case hk => exact rfl); (case N => k_asm); (case l => (first | assumption | exact Nat.le_of_ble_eq_true rfl | omega)); (case d => first | exact room2 (by assumption) (by exact rfl) | exact room1 (by assumption) (by exact rfl) | omega | (dsimp only [ktrTop]; omega)); (case u => first | exact room2 (by assumption) (by exact rfl) | exact room1 (by assumption) (by exact rfl) | omega | (dsimp only [ktrTop]; omega))); intro _ _ _ _; (try k_sweep)) | (k_here; (with_reducible show wpAny _ _ (call (Value.ref 173) _) _ _ _); k_dflt (refine' spot_use (pre := []) ?B ?F ?X ?T ?hk ?R ?N ?hw ?d ?u ?_; (case B => k_asm); (case F => k_asm); (case X => k_asm); (case T => k_asm); (case hk => exact rfl); (case R => assumption); (case N => k_asm); (case hw => assumption); (case d => first | exact room2 (by assumption) (by exact rfl) | exact room1 (by assumption) (by exact rfl) | omega | (dsimp only [ktrTop]; omega)); (case u => first | exact room2 (by assumption) (by exact rfl) | exact room1 (by assumption) (by exact rfl) | omega | (dsimp only [ktrTop]; omega))); intro _ _ _ _ _; tb_start) | (k_here; (with_reducible show wpAny _ _ (call (Value.ref 166) _) _ _ _); k_dflt (refine' word_use (pre := []) ?B ?F ?X ?T ?hk ?R ?N ?hw ?d ?u ?_; (case B => k_asm); (case F => k_asm); (case X => k_asm); (case T => k_asm); (case hk => exact rfl); (case R => assumption); (case N => k_asm); (case hw => assumption); (case d => first | exact room2 (by assumption) (by exact rfl) | exact room1 (by assumption) (by exact rfl) | omega | (dsimp only [ktrTop]; omega)); (case u => first | exact room2 (by assumption) (by exact rfl) | exact room1 (by assumption) (by exact rfl) | omega | (dsimp only [ktrTop]; omega))); intro _ _ _ _ _; tb_start)) | walk1 | (dsimp only; first | walk1 | (k_unfold; (try dsimp only)))))))
  · rename (wd == (")" : PySem.Str)) = true => hq
    have hq' : wd = (")" : PySem.Str) := by simpa using hq
    k_dflt (refine' refused_use XB TB ?B ?F ?X ?T ?hk ?R ?N hw (Nat.le_of_ble_eq_true (by decide +kernel)) (by decide +kernel) (by rw [hq']; decide +kernel) ?d ?u ?_; (case B => k_asm); (case F => k_asm); (case X => k_asm); (case T => k_asm); (case hk => exact rfl); (case R => assumption); (case N => k_asm); (case d => first | exact room2 (by assumption) (by exact rfl) | exact room1 (by assumption) (by exact rfl) | omega | (dsimp only [ktrTop]; omega)); (case u => first | exact room2 (by assumption) (by exact rfl) | exact room1 (by assumption) (by exact rfl) | omega | (dsimp only [ktrTop]; omega)))
    intro g3 h3 tk3 K3 F3 N3 B3 X3 T3
    dsimp only [rdL] at N3
    (repeat' (first | (k_unfold; (try dsimp only)) | ((fail_if_success (with_reducible first | refine stop_at [76, 288, 295, 187, 194] (by decide) ?_ | refine stop_st (by decide) ?_ | refine stop_bl (by decide) ?_ | refine stop_lc ?_ | refine stop_jp ?_ | show LCg.CompSrc _ _ _ _ _ _ _ _ _ _ _ _ _ _ | show LCt.CompSrcT _ _ _ _ _ _ _ _ _ _ _ _ _ _ _)); (first | ((with_reducible refine stop_cr ?_); first | (k_here; (with_reducible show wpAny _ _ (call (Value.ref 95) _) _ _ _); k_dflt (refine' isop_use ?B ?F ?X ?T ?hk ?N ?l ?d ?u ?_; (case B => k_asm); (case F => k_asm); (case X => k_asm); (case T => k_asm); (case hk => exact rfl); (case N => k_asm); (case l => (first | assumption | exact Nat.le_of_ble_eq_true rfl | omega)); (case d => first | exact room2 (by assumption) (by exact rfl) | exact room1 (by assumption) (by exact rfl) | omega | (dsimp only [ktrTop]; omega)); (case u => first | exact room2 (by assumption) (by exact rfl) | exact room1 (by assumption) (by exact rfl) | omega | (dsimp only [ktrTop]; omega))); intro _ _ _ _; (try k_sweep)) | (k_here; (with_reducible show wpAny _ _ (call (Value.ref 173) _) _ _ _); k_dflt (refine' spot_use (pre := []) ?B ?F ?X ?T ?hk ?R ?N ?hw ?d ?u ?_; (case B => k_asm); (case F => k_asm); (case X => k_asm); (case T => k_asm); (case hk => exact rfl); (case R => assumption); (case N => k_asm); (case hw => assumption); (case d => first | exact room2 (by assumption) (by exact rfl) | exact room1 (by assumption) (by exact rfl) | omega | (dsimp only [ktrTop]; omega)); (case u => first | exact room2 (by assumption) (by exact rfl) | exact room1 (by assumption) (by exact rfl) | omega | (dsimp only [ktrTop]; omega))); intro _ _ _ _ _; tb_start) | (k_here; (with_reducible show wpAny _ _ (call (Value.ref 166) _) _ _ _); k_dflt (refine' word_use (pre := []) ?B ?F ?X ?T ?hk ?R ?N ?hw ?d ?u ?_; (case B => k_asm); (case F => k_asm); (case X => k_asm); (case T => k_asm); (case hk => exact rfl); (case R => assumption); (case N => k_asm); (case hw => assumption); (case d => first | exact room2 (by assumption) (by exact rfl) | exact room1 (by assumption) (by exact rfl) | omega | (dsimp only [ktrTop]; omega)); (case u => first | exact room2 (by assumption) (by exact rfl) | exact room1 (by assumption) (by exact rfl) | omega | (dsimp only [ktrTop]; omega))); intro _ _ _ _ _; tb_start)) | walk1 | (dsimp only; first | walk1 | (k_unfold; (try dsimp only)))))))
    · rename (List.any _ _) = true => hm
      rename _ ∧ _ => ld
      k_dflt (refine' noop_use (rd := rd) (dxr := dxr) (r := r) (p := p) (d := d) (k := k) (tp := tp) (td := td) (n := n) XB TB ?B ?F ?X ?T ?hk ?R ?N ?sub hw (mark_noop hm).1 ?dd ?u ?_; (case B => k_asm); (case F => k_asm); (case X => k_asm); (case T => k_asm); (case hk => exact rfl); (case R => assumption); (case N => k_asm); (case sub => exact fun x hx => .tail _ hx); (case dd => first | omega | (dsimp only [ktrTop]; omega)); (case u => first | exact room2 (by assumption) (by exact rfl) | exact room1 (by assumption) (by exact rfl) | omega | (dsimp only [ktrTop]; omega)))
      intro g4 h4 tk4 K4 F4 N4 B4 X4 T4
      (repeat' (first | (k_unfold; (try dsimp only)) | ((fail_if_success (with_reducible first | refine stop_at [76, 288, 295, 187, 194] (by decide) ?_ | refine stop_st (by decide) ?_ | refine stop_bl (by decide) ?_ | refine stop_lc ?_ | refine stop_jp ?_ | show LCg.CompSrc _ _ _ _ _ _ _ _ _ _ _ _ _ _ | show LCt.CompSrcT _ _ _ _ _ _ _ _ _ _ _ _ _ _ _)); (first | ((with_reducible refine stop_cr ?_); first | (k_here; (with_reducible show wpAny _ _ (call (Value.ref 95) _) _ _ _); k_dflt (refine' isop_use ?B ?F ?X ?T ?hk ?N ?l ?d ?u ?_; (case B => k_asm); (case F => k_asm); (case X => k_asm); (case T => k_asm); (case hk => exact rfl); (case N => k_asm); (case l => (first | assumption | exact Nat.le_of_ble_eq_true rfl | omega)); (case d => first | exact room2 (by assumption) (by exact rfl) | exact room1 (by assumption) (by exact rfl) | omega | (dsimp only [ktrTop]; omega)); (case u => first | exact room2 (by assumption) (by exact rfl) | exact room1 (by assumption) (by exact rfl) | omega | (dsimp only [ktrTop]; omega))); intro _ _ _ _; (try k_sweep)) | (k_here; (with_reducible show wpAny _ _ (call (Value.ref 173) _) _ _ _); k_dflt (refine' spot_use (pre := []) ?B ?F ?X ?T ?hk ?R ?N ?hw ?d ?u ?_; (case B => k_asm); (case F => k_asm); (case X => k_asm); (case T => k_asm); (case hk => exact rfl); (case R => assumption); (case N => k_asm); (case hw => assumption); (case d => first | exact room2 (by assumption) (by exact rfl) | exact room1 (by assumption) (by exact rfl) | omega | (dsimp only [ktrTop]; omega)); (case u => first | exact room2 (by assumption) (by exact rfl) | exact room1 (by assumption) (by exact rfl) | omega | (dsimp only [ktrTop]; omega))); intro _ _ _ _ _; tb_start) | (k_here; (with_reducible show wpAny _ _ (call (Value.ref 166) _) _ _ _); k_dflt (refine' word_use (pre := []) ?B ?F ?X ?T ?hk ?R ?N ?hw ?d ?u ?_; (case B => k_asm); (case F => k_asm); (case X => k_asm); (case T => k_asm); (case hk => exact rfl); (case R => assumption); (case N => k_asm); (case hw => assumption); (case d => first | exact room2 (by assumption) (by exact rfl) | exact room1 (by assumption) (by exact rfl) | omega | (dsimp only [ktrTop]; omega)); (case u => first | exact room2 (by assumption) (by exact rfl) | exact room1 (by assumption) (by exact rfl) | omega | (dsimp only [ktrTop]; omega))); intro _ _ _ _ _; tb_start)) | walk1 | (dsimp only; first | walk1 | (k_unfold; (try dsimp only)))))))
      k_dflt (refine' want_use (pre := [_]) ?B ?F ?X ?T ?hk ?R ?P ?N hw (mark_noop hm).2 ?d ?u ?_; (case B => k_asm); (case F => k_asm); (case X => k_asm); (case T => k_asm); (case hk => exact rfl); (case R => assumption); (case N => k_asm); (case P => (intro x hx; simp only [List.mem_singleton] at hx; subst hx; exact Nat.ne_of_gt ld.2.1)); (case d => first | exact room2 (by assumption) (by exact rfl) | exact room1 (by assumption) (by exact rfl) | omega | (dsimp only [ktrTop]; omega)); (case u => first | exact room2 (by assumption) (by exact rfl) | exact room1 (by assumption) (by exact rfl) | omega | (dsimp only [ktrTop]; omega)))
      intro h5 tk5 tp5 F5 N5
      dsimp only [rdL, List.nil_append, List.cons_append] at N5
      (repeat' (first | (k_unfold; (try dsimp only)) | ((fail_if_success (with_reducible first | refine stop_at [76, 288, 295, 187, 194] (by decide) ?_ | refine stop_st (by decide) ?_ | refine stop_bl (by decide) ?_ | refine stop_lc ?_ | refine stop_jp ?_ | show LCg.CompSrc _ _ _ _ _ _ _ _ _ _ _ _ _ _ | show LCt.CompSrcT _ _ _ _ _ _ _ _ _ _ _ _ _ _ _)); (first | ((with_reducible refine stop_cr ?_); first | (k_here; (with_reducible show wpAny _ _ (call (Value.ref 95) _) _ _ _); k_dflt (refine' isop_use ?B ?F ?X ?T ?hk ?N ?l ?d ?u ?_; (case B => k_asm); (case F => k_asm); (case X => k_asm); (case T => k_asm); (case hk => exact rfl); (case N => k_asm); (case l => (first | assumption | exact Nat.le_of_ble_eq_true rfl | omega)); (case d => first | exact room2 (by assumption) (by exact rfl) | exact room1 (by assumption) (by exact rfl) | omega | (dsimp only [ktrTop]; omega)); (case u => first | exact room2 (by assumption) (by exact rfl) | exact room1 (by assumption) (by exact rfl) | omega | (dsimp only [ktrTop]; omega))); intro _ _ _ _; (try k_sweep)) | (k_here; (with_reducible show wpAny _ _ (call (Value.ref 173) _) _ _ _); k_dflt (refine' spot_use (pre := []) ?B ?F ?X ?T ?hk ?R ?N ?hw ?d ?u ?_; (case B => k_asm); (case F => k_asm); (case X => k_asm); (case T => k_asm); (case hk => exact rfl); (case R => assumption); (case N => k_asm); (case hw => assumption); (case d => first | exact room2 (by assumption) (by exact rfl) | exact room1 (by assumption) (by exact rfl) | omega | (dsimp only [ktrTop]; omega)); (case u => first | exact room2 (by assumption) (by exact rfl) | exact room1 (by assumption) (by exact rfl) | omega | (dsimp only [ktrTop]; omega))); intro _ _ _ _ _; tb_start) | (k_here; (with_reducible show wpAny _ _ (call (Value.ref 166) _) _ _ _); k_dflt (refine' word_use (pre := []) ?B ?F ?X ?T ?hk ?R ?N ?hw ?d ?u ?_; (case B => k_asm); (case F => k_asm); (case X => k_asm); (case T => k_asm); (case hk => exact rfl); (case R => assumption); (case N => k_asm); (case hw => assumption); (case d => first | exact room2 (by assumption) (by exact rfl) | exact room1 (by assumption) (by exact rfl) | omega | (dsimp only [ktrTop]; omega)); (case u => first | exact room2 (by assumption) (by exact rfl) | exact room1 (by assumption) (by exact rfl) | omega | (dsimp only [ktrTop]; omega))); intro _ _ _ _ _; tb_start)) | walk1 | (dsimp only; first | walk1 | (k_unfold; (try dsimp only)))))))
      exact hQ _ _ _ (up_of N hg' (K2.trans (K3.trans K4)) F5 N5 (fun y hy ny => .tail _ (rdl_sub rfl y hy ny))) (N5 _ (.tail _ (.tail _ (.head _)))).1
    · rename (List.any _ _) = false => hm
      rename _ ∧ _ => ld
      have hop : isOp wd = true := hgood.resolve_left (fun q => not_mark hm q)
      dsimp only
      k_dflt (refine' op_use (pre := [_]) ?B ?F ?X ?T ?hk ?R ?P ?N hw hop ?d ?u ?_; (case B => k_asm); (case F => k_asm); (case X => k_asm); (case T => k_asm); (case hk => exact rfl); (case R => assumption); (case N => k_asm); (case P => (intro x hx; simp only [List.mem_singleton] at hx; subst hx; exact Nat.ne_of_gt ld.2.1)); (case d => first | exact room2 (by assumption) (by exact rfl) | exact room1 (by assumption) (by exact rfl) | omega | (dsimp only [ktrTop]; omega)); (case u => first | exact room2 (by assumption) (by exact rfl) | exact room1 (by assumption) (by exact rfl) | omega | (dsimp only [ktrTop]; omega)))
      intro h5 tk5 t5 tp5 F5 N5
      dsimp only [rdL, List.nil_append, List.cons_append] at N5
      (repeat' (first | (k_unfold; (try dsimp only)) | ((fail_if_success (with_reducible first | refine stop_at [76, 288, 295, 187, 194] (by decide) ?_ | refine stop_st (by decide) ?_ | refine stop_bl (by decide) ?_ | refine stop_lc ?_ | refine stop_jp ?_ | show LCg.CompSrc _ _ _ _ _ _ _ _ _ _ _ _ _ _ | show LCt.CompSrcT _ _ _ _ _ _ _ _ _ _ _ _ _ _ _)); (first | ((with_reducible refine stop_cr ?_); first | (k_here; (with_reducible show wpAny _ _ (call (Value.ref 95) _) _ _ _); k_dflt (refine' isop_use ?B ?F ?X ?T ?hk ?N ?l ?d ?u ?_; (case B => k_asm); (case F => k_asm); (case X => k_asm); (case T => k_asm); (case hk => exact rfl); (case N => k_asm); (case l => (first | assumption | exact Nat.le_of_ble_eq_true rfl | omega)); (case d => first | exact room2 (by assumption) (by exact rfl) | exact room1 (by assumption) (by exact rfl) | omega | (dsimp only [ktrTop]; omega)); (case u => first | exact room2 (by assumption) (by exact rfl) | exact room1 (by assumption) (by exact rfl) | omega | (dsimp only [ktrTop]; omega))); intro _ _ _ _; (try k_sweep)) | (k_here; (with_reducible show wpAny _ _ (call (Value.ref 173) _) _ _ _); k_dflt (refine' spot_use (pre := []) ?B ?F ?X ?T ?hk ?R ?N ?hw ?d ?u ?_; (case B => k_asm); (case F => k_asm); (case X => k_asm); (case T => k_asm); (case hk => exact rfl); (case R => assumption); (case N => k_asm); (case hw => assumption); (case d => first | exact room2 (by assumption) (by exact rfl) | exact room1 (by assumption) (by exact rfl) | omega | (dsimp only [ktrTop]; omega)); (case u => first | exact room2 (by assumption) (by exact rfl) | exact room1 (by assumption) (by exact rfl) | omega | (dsimp only [ktrTop]; omega))); intro _ _ _ _ _; tb_start) | (k_here; (with_reducible show wpAny _ _ (call (Value.ref 166) _) _ _ _); k_dflt (refine' word_use (pre := []) ?B ?F ?X ?T ?hk ?R ?N ?hw ?d ?u ?_; (case B => k_asm); (case F => k_asm); (case X => k_asm); (case T => k_asm); (case hk => exact rfl); (case R => assumption); (case N => k_asm); (case hw => assumption); (case d => first | exact room2 (by assumption) (by exact rfl) | exact room1 (by assumption) (by exact rfl) | omega | (dsimp only [ktrTop]; omega)); (case u => first | exact room2 (by assumption) (by exact rfl) | exact room1 (by assumption) (by exact rfl) | omega | (dsimp only [ktrTop]; omega))); intro _ _ _ _ _; tb_start)) | walk1 | (dsimp only; first | walk1 | (k_unfold; (try dsimp only)))))))
      rename Fr g3 _ _ _ => F6
      rename News g3 _ _ _ => N6
      rw [show (wd == wd) = true by simp]
      exact hQ _ _ _ (up_of N hg' (K2.trans K3) F6 N6 (fun y hy ny => .tail _ (rdl_sub rfl y hy ny))) (N6 _ (.tail _ (.tail _ (.head _)))).1
  · rename (wd == (")" : PySem.Str)) = false => hq
    have hq' : wd ≠ (")" : PySem.Str) := by simpa using hq
    k_dflt (refine' refused_use XB TB ?B ?F ?X ?T ?hk ?R ?N hw (Nat.le_of_ble_eq_true (by decide +kernel)) (by decide +kernel) hq' ?d ?u ?_; (case B => k_asm); (case F => k_asm); (case X => k_asm); (case T => k_asm); (case hk => exact rfl); (case R => assumption); (case N => k_asm); (case d => first | exact room2 (by assumption) (by exact rfl) | exact room1 (by assumption) (by exact rfl) | omega | (dsimp only [ktrTop]; omega)); (case u => first | exact room2 (by assumption) (by exact rfl) | exact room1 (by assumption) (by exact rfl) | omega | (dsimp only [ktrTop]; omega)))
    intro g3 h3 tk3 K3 F3 N3 B3 X3 T3
    dsimp only [rdL] at N3
    (repeat' (first | (k_unfold; (try dsimp only)) | ((fail_if_success (with_reducible first | refine stop_at [76, 288, 295, 187, 194] (by decide) ?_ | refine stop_st (by decide) ?_ | refine stop_bl (by decide) ?_ | refine stop_lc ?_ | refine stop_jp ?_ | show LCg.CompSrc _ _ _ _ _ _ _ _ _ _ _ _ _ _ | show LCt.CompSrcT _ _ _ _ _ _ _ _ _ _ _ _ _ _ _)); (first | ((with_reducible refine stop_cr ?_); first | (k_here; (with_reducible show wpAny _ _ (call (Value.ref 95) _) _ _ _); k_dflt (refine' isop_use ?B ?F ?X ?T ?hk ?N ?l ?d ?u ?_; (case B => k_asm); (case F => k_asm); (case X => k_asm); (case T => k_asm); (case hk => exact rfl); (case N => k_asm); (case l => (first | assumption | exact Nat.le_of_ble_eq_true rfl | omega)); (case d => first | exact room2 (by assumption) (by exact rfl) | exact room1 (by assumption) (by exact rfl) | omega | (dsimp only [ktrTop]; omega)); (case u => first | exact room2 (by assumption) (by exact rfl) | exact room1 (by assumption) (by exact rfl) | omega | (dsimp only [ktrTop]; omega))); intro _ _ _ _; (try k_sweep)) | (k_here; (with_reducible show wpAny _ _ (call (Value.ref 173) _) _ _ _); k_dflt (refine' spot_use (pre := []) ?B ?F ?X ?T ?hk ?R ?N ?hw ?d ?u ?_; (case B => k_asm); (case F => k_asm); (case X => k_asm); (case T => k_asm); (case hk => exact rfl); (case R => assumption); (case N => k_asm); (case hw => assumption); (case d => first | exact room2 (by assumption) (by exact rfl) | exact room1 (by assumption) (by exact rfl) | omega | (dsimp only [ktrTop]; omega)); (case u => first | exact room2 (by assumption) (by exact rfl) | exact room1 (by assumption) (by exact rfl) | omega | (dsimp only [ktrTop]; omega))); intro _ _ _ _ _; tb_start) | (k_here; (with_reducible show wpAny _ _ (call (Value.ref 166) _) _ _ _); k_dflt (refine' word_use (pre := []) ?B ?F ?X ?T ?hk ?R ?N ?hw ?d ?u ?_; (case B => k_asm); (case F => k_asm); (case X => k_asm); (case T => k_asm); (case hk => exact rfl); (case R => assumption); (case N => k_asm); (case hw => assumption); (case d => first | exact room2 (by assumption) (by exact rfl) | exact room1 (by assumption) (by exact rfl) | omega | (dsimp only [ktrTop]; omega)); (case u => first | exact room2 (by assumption) (by exact rfl) | exact room1 (by assumption) (by exact rfl) | omega | (dsimp only [ktrTop]; omega))); intro _ _ _ _ _; tb_start)) | walk1 | (dsimp only; first | walk1 | (k_unfold; (try dsimp only)))))))
    · rename (List.any _ _) = true => hm
      rename _ ∧ _ => ld
      k_dflt (refine' noop_use (rd := rd) (dxr := dxr) (r := r) (p := p) (d := d) (k := k) (tp := tp) (td := td) (n := n) XB TB ?B ?F ?X ?T ?hk ?R ?N ?sub hw (mark_noop hm).1 ?dd ?u ?_; (case B => k_asm); (case F => k_asm); (case X => k_asm); (case T => k_asm); (case hk => exact rfl); (case R => assumption); (case N => k_asm); (case sub => exact fun x hx => .tail _ hx); (case dd => first | omega | (dsimp only [ktrTop]; omega)); (case u => first | exact room2 (by assumption) (by exact rfl) | exact room1 (by assumption) (by exact rfl) | omega | (dsimp only [ktrTop]; omega)))
      intro g4 h4 tk4 K4 F4 N4 B4 X4 T4
      (repeat' (first | (k_unfold; (try dsimp only)) | ((fail_if_success (with_reducible first | refine stop_at [76, 288, 295, 187, 194] (by decide) ?_ | refine stop_st (by decide) ?_ | refine stop_bl (by decide) ?_ | refine stop_lc ?_ | refine stop_jp ?_ | show LCg.CompSrc _ _ _ _ _ _ _ _ _ _ _ _ _ _ | show LCt.CompSrcT _ _ _ _ _ _ _ _ _ _ _ _ _ _ _)); (first | ((with_reducible refine stop_cr ?_); first | (k_here; (with_reducible show wpAny _ _ (call (Value.ref 95) _) _ _ _); k_dflt (refine' isop_use ?B ?F ?X ?T ?hk ?N ?l ?d ?u ?_; (case B => k_asm); (case F => k_asm); (case X => k_asm); (case T => k_asm); (case hk => exact rfl); (case N => k_asm); (case l => (first | assumption | exact Nat.le_of_ble_eq_true rfl | omega)); (case d => first | exact room2 (by assumption) (by exact rfl) | exact room1 (by assumption) (by exact rfl) | omega | (dsimp only [ktrTop]; omega)); (case u => first | exact room2 (by assumption) (by exact rfl) | exact room1 (by assumption) (by exact rfl) | omega | (dsimp only [ktrTop]; omega))); intro _ _ _ _; (try k_sweep)) | (k_here; (with_reducible show wpAny _ _ (call (Value.ref 173) _) _ _ _); k_dflt (refine' spot_use (pre := []) ?B ?F ?X ?T ?hk ?R ?N ?hw ?d ?u ?_; (case B => k_asm); (case F => k_asm); (case X => k_asm); (case T => k_asm); (case hk => exact rfl); (case R => assumption); (case N => k_asm); (case hw => assumption); (case d => first | exact room2 (by assumption) (by exact rfl) | exact room1 (by assumption) (by exact rfl) | omega | (dsimp only [ktrTop]; omega)); (case u => first | exact room2 (by assumption) (by exact rfl) | exact room1 (by assumption) (by exact rfl) | omega | (dsimp only [ktrTop]; omega))); intro _ _ _ _ _; tb_start) | (k_here; (with_reducible show wpAny _ _ (call (Value.ref 166) _) _ _ _); k_dflt (refine' word_use (pre := []) ?B ?F ?X ?T ?hk ?R ?N ?hw ?d ?u ?_; (case B => k_asm); (case F => k_asm); (case X => k_asm); (case T => k_asm); (case hk => exact rfl); (case R => assumption); (case N => k_asm); (case hw => assumption); (case d => first | exact room2 (by assumption) (by exact rfl) | exact room1 (by assumption) (by exact rfl) | omega | (dsimp only [ktrTop]; omega)); (case u => first | exact room2 (by assumption) (by exact rfl) | exact room1 (by assumption) (by exact rfl) | omega | (dsimp only [ktrTop]; omega))); intro _ _ _ _ _; tb_start)) | walk1 | (dsimp only; first | walk1 | (k_unfold; (try dsimp only)))))))
      k_dflt (refine' want_use (pre := [_]) ?B ?F ?X ?T ?hk ?R ?P ?N hw (mark_noop hm).2 ?d ?u ?_; (case B => k_asm); (case F => k_asm); (case X => k_asm); (case T => k_asm); (case hk => exact rfl); (case R => assumption); (case N => k_asm); (case P => (intro x hx; simp only [List.mem_singleton] at hx; subst hx; exact Nat.ne_of_gt ld.2.1)); (case d => first | exact room2 (by assumption) (by exact rfl) | exact room1 (by assumption) (by exact rfl) | omega | (dsimp only [ktrTop]; omega)); (case u => first | exact room2 (by assumption) (by exact rfl) | exact room1 (by assumption) (by exact rfl) | omega | (dsimp only [ktrTop]; omega)))
      intro h5 tk5 tp5 F5 N5
      dsimp only [rdL, List.nil_append, List.cons_append] at N5
      (repeat' (first | (k_unfold; (try dsimp only)) | ((fail_if_success (with_reducible first | refine stop_at [76, 288, 295, 187, 194] (by decide) ?_ | refine stop_st (by decide) ?_ | refine stop_bl (by decide) ?_ | refine stop_lc ?_ | refine stop_jp ?_ | show LCg.CompSrc _ _ _ _ _ _ _ _ _ _ _ _ _ _ | show LCt.CompSrcT _ _ _ _ _ _ _ _ _ _ _ _ _ _ _)); (first | ((with_reducible refine stop_cr ?_); first | (k_here; (with_reducible show wpAny _ _ (call (Value.ref 95) _) _ _ _); k_dflt (refine' isop_use ?B ?F ?X ?T ?hk ?N ?l ?d ?u ?_; (case B => k_asm); (case F => k_asm); (case X => k_asm); (case T => k_asm); (case hk => exact rfl); (case N => k_asm); (case l => (first | assumption | exact Nat.le_of_ble_eq_true rfl | omega)); (case d => first | exact room2 (by assumption) (by exact rfl) | exact room1 (by assumption) (by exact rfl) | omega | (dsimp only [ktrTop]; omega)); (case u => first | exact room2 (by assumption) (by exact rfl) | exact room1 (by assumption) (by exact rfl) | omega | (dsimp only [ktrTop]; omega))); intro _ _ _ _; (try k_sweep)) | (k_here; (with_reducible show wpAny _ _ (call (Value.ref 173) _) _ _ _); k_dflt (refine' spot_use (pre := []) ?B ?F ?X ?T ?hk ?R ?N ?hw ?d ?u ?_; (case B => k_asm); (case F => k_asm); (case X => k_asm); (case T => k_asm); (case hk => exact rfl); (case R => assumption); (case N => k_asm); (case hw => assumption); (case d => first | exact room2 (by assumption) (by exact rfl) | exact room1 (by assumption) (by exact rfl) | omega | (dsimp only [ktrTop]; omega)); (case u => first | exact room2 (by assumption) (by exact rfl) | exact room1 (by assumption) (by exact rfl) | omega | (dsimp only [ktrTop]; omega))); intro _ _ _ _ _; tb_start) | (k_here; (with_reducible show wpAny _ _ (call (Value.ref 166) _) _ _ _); k_dflt (refine' word_use (pre := []) ?B ?F ?X ?T ?hk ?R ?N ?hw ?d ?u ?_; (case B => k_asm); (case F => k_asm); (case X => k_asm); (case T => k_asm); (case hk => exact rfl); (case R => assumption); (case N => k_asm); (case hw => assumption); (case d => first | exact room2 (by assumption) (by exact rfl) | exact room1 (by assumption) (by exact rfl) | omega | (dsimp only [ktrTop]; omega)); (case u => first | exact room2 (by assumption) (by exact rfl) | exact room1 (by assumption) (by exact rfl) | omega | (dsimp only [ktrTop]; omega))); intro _ _ _ _ _; tb_start)) | walk1 | (dsimp only; first | walk1 | (k_unfold; (try dsimp only)))))))
      exact hQ _ _ _ (up_of N hg' (K2.trans (K3.trans K4)) F5 N5 (fun y hy ny => .tail _ (rdl_sub rfl y hy ny))) (N5 _ (.tail _ (.tail _ (.head _)))).1
    · rename (List.any _ _) = false => hm
      rename _ ∧ _ => ld
      have hop : isOp wd = true := hgood.resolve_left (fun q => not_mark hm q)
      dsimp only
      k_dflt (refine' op_use (pre := [_]) ?B ?F ?X ?T ?hk ?R ?P ?N hw hop ?d ?u ?_; (case B => k_asm); (case F => k_asm); (case X => k_asm); (case T => k_asm); (case hk => exact rfl); (case R => assumption); (case N => k_asm); (case P => (intro x hx; simp only [List.mem_singleton] at hx; subst hx; exact Nat.ne_of_gt ld.2.1)); (case d => first | exact room2 (by assumption) (by exact rfl) | exact room1 (by assumption) (by exact rfl) | omega | (dsimp only [ktrTop]; omega)); (case u => first | exact room2 (by assumption) (by exact rfl) | exact room1 (by assumption) (by exact rfl) | omega | (dsimp only [ktrTop]; omega)))
      intro h5 tk5 t5 tp5 F5 N5
      dsimp only [rdL, List.nil_append, List.cons_append] at N5
      (repeat' (first | (k_unfold; (try dsimp only)) | ((fail_if_success (with_reducible first | refine stop_at [76, 288, 295, 187, 194] (by decide) ?_ | refine stop_st (by decide) ?_ | refine stop_bl (by decide) ?_ | refine stop_lc ?_ | refine stop_jp ?_ | show LCg.CompSrc _ _ _ _ _ _ _ _ _ _ _ _ _ _ | show LCt.CompSrcT _ _ _ _ _ _ _ _ _ _ _ _ _ _ _)); (first | ((with_reducible refine stop_cr ?_); first | (k_here; (with_reducible show wpAny _ _ (call (Value.ref 95) _) _ _ _); k_dflt (refine' isop_use ?B ?F ?X ?T ?hk ?N ?l ?d ?u ?_; (case B => k_asm); (case F => k_asm); (case X => k_asm); (case T => k_asm); (case hk => exact rfl); (case N => k_asm); (case l => (first | assumption | exact Nat.le_of_ble_eq_true rfl | omega)); (case d => first | exact room2 (by assumption) (by exact rfl) | exact room1 (by assumption) (by exact rfl) | omega | (dsimp only [ktrTop]; omega)); (case u => first | exact room2 (by assumption) (by exact rfl) | exact room1 (by assumption) (by exact rfl) | omega | (dsimp only [ktrTop]; omega))); intro _ _ _ _; (try k_sweep)) | (k_here; (with_reducible show wpAny _ _ (call (Value.ref 173) _) _ _ _); k_dflt (refine' spot_use (pre := []) ?B ?F ?X ?T ?hk ?R ?N ?hw ?d ?u ?_; (case B => k_asm); (case F => k_asm); (case X => k_asm); (case T => k_asm); (case hk => exact rfl); (case R => assumption); (case N => k_asm); (case hw => assumption); (case d => first | exact room2 (by assumption) (by exact rfl) | exact room1 (by assumption) (by exact rfl) | omega | (dsimp only [ktrTop]; omega)); (case u => first | exact room2 (by assumption) (by exact rfl) | exact room1 (by assumption) (by exact rfl) | omega | (dsimp only [ktrTop]; omega))); intro _ _ _ _ _; tb_start) | (k_here; (with_reducible show wpAny _ _ (call (Value.ref 166) _) _ _ _); k_dflt (refine' word_use (pre := []) ?B ?F ?X ?T ?hk ?R ?N ?hw ?d ?u ?_; (case B => k_asm); (case F => k_asm); (case X => k_asm); (case T => k_asm); (case hk => exact rfl); (case R => assumption); (case N => k_asm); (case hw => assumption); (case d => first | exact room2 (by assumption) (by exact rfl) | exact room1 (by assumption) (by exact rfl) | omega | (dsimp only [ktrTop]; omega)); (case u => first | exact room2 (by assumption) (by exact rfl) | exact room1 (by assumption) (by exact rfl) | omega | (dsimp only [ktrTop]; omega))); intro _ _ _ _ _; tb_start)) | walk1 | (dsimp only; first | walk1 | (k_unfold; (try dsimp only)))))))
      rename Fr g3 _ _ _ => F6
      rename News g3 _ _ _ => N6
      rw [show (wd == wd) = true by simp]
      exact hQ _ _ _ (up_of N hg' (K2.trans K3) F6 N6 (fun y hy ny => .tail _ (rdl_sub rfl y hy ny))) (N6 _ (.tail _ (.tail _ (.head _)))).1
end
/- Comp -/
theorem freshComp : True := by
  w_top off
  trivial
section
open PySem PySem.W PySem.Calls PySem.Spec PyProof.Rows PyProof.Rows.LCg PyProof.Rows.LCt
/- comprehensions of any length, by a word of what is made so far -/
theorem ce_mono {h₀ : Heap} {L I C D : Addr} {m : Str → Option Value} {s₁ s₂ : Shared} {oI oC oD : Obj} {S : List (Addr × Obj) → Prop} {r r' : Value → List (Addr × Obj) → Prop} {y : Value} (h : CompEnd h₀ L m s₁ I oI C oC D oD S r y s₂) (k : ∀ news, S news → r y news → r' y news) : CompEnd h₀ L m s₁ I oI C oC D oD S r' y s₂ := by
  obtain ⟨h', tk, news', e, F, N, off, hS, hr⟩ := h
  exact ⟨h', tk, news', e, F, N, off, hS, k news' hS hr⟩
section
variable {prog : Program} {w : World} {A : Around} {E : Value → Shared → Prop} {s s₁ : Shared} {h₀ : Heap} {L : Addr} {m : Str → Option Value} {env : Env} {ct elt : Expr} {x : Str} {scope : Scope} {cl : List (Str × Addr)} {S : List (Addr × Obj) → Prop} {P : Nat → Value → Prop}
/-- one turn, as a word -/
noncomputable def TurnU (prog : Program) (w : World) (A : Around) (h₀ : Heap) (L : Addr) (m : Str → Option Value) (env : Env) (elt : Expr) (x : Str) (scope : Scope) (cl : List (Str × Addr)) (s : Shared) (S : List (Addr × Obj) → Prop) (P : Nat → Value → Prop) (n : Nat) (Inv : Nat → List Value → List (Addr × Obj) → Prop) : Prop :=
  ∀ i ys news v I oI C oC D m₂ h tk (E' : Value → Shared → Prop), i < n → Inv i ys news → S news → P i v → NsObj oC m₂ → m₂ x = some v → Fr h₀ L h m → News h₀ L h ((I, oI) :: (C, oC) :: (D, lst ys) :: news) → Off3 I C D news → ((@Ne Nat I C) ∧ (@Ne Nat I D) ∧ (@Ne Nat C D)) →
    wpAny (model prog w) A (eval elt (compEnvC scope cl C env)) (CompEnd h₀ L m { s with heap := h, toks := tk } I oI C oC D (lst ys) S (fun y news' => Inv (i + 1) (ys ++ [y]) news')) E' { s with heap := h, toks := tk }
theorem rest_U {n : Nat} {Inv : Nat → List Value → List (Addr × Obj) → Prop} {Fin : List Value → List (Addr × Obj) → Prop} (turn : TurnU prog w A h₀ L m env elt x scope cl s S P n Inv) (fin : ∀ ys news, Inv n ys news → Fin ys news) :
    ∀ k i ys news, i + k = n → S news → Inv i ys news → CompRest prog w A h₀ L m env elt x scope cl s S P Fin k i ys news
  | 0, i, ys, news, e, _, hi => CompRest.zero (by
      obtain rfl : i = n := by omega
      exact fin _ _ hi)
  | k + 1, i, ys, news, e, hS, hi => CompRest.succ fun v I oI C oC D m₂ h tk E' hP hC hx F N off ne =>
      wpAny_mono (turn i ys news v I oI C oC D m₂ h tk E' (by omega) hi hS hP hC hx F N off ne) (fun y s' z => ce_mono z fun news' hS' hi' => rest_U turn fin k (i + 1) (ys ++ [y]) news' (by omega) hS' hi') fun _ _ z => z
noncomputable def TurnT (prog : Program) (w : World) (A : Around) (h₀ : Heap) (L : Addr) (m : Str → Option Value) (env : Env) (ct elt : Expr) (x : Str) (scope : Scope) (cl : List (Str × Addr)) (s : Shared) (S : List (Addr × Obj) → Prop) (P : Nat → Value → Prop) (n : Nat) (Inv : Nat → List Value → List (Addr × Obj) → Prop) : Prop :=
  ∀ i ys news v I oI C oC D m₂ h tk (E' : Value → Shared → Prop), i < n → Inv i ys news → S news → P i v → NsObj oC m₂ → m₂ x = some v → Fr h₀ L h m → News h₀ L h ((I, oI) :: (C, oC) :: (D, lst ys) :: news) → Off3 I C D news → ((@Ne Nat I C) ∧ (@Ne Nat I D) ∧ (@Ne Nat C D)) →
    wpAny (model prog w) A (isTrue ct (compEnvC scope cl C env) (eval ct (compEnvC scope cl C env))) (fun ok s' => if ok = true then
        wpAny (model prog w) A (eval elt (compEnvC scope cl C env)) (CompEnd h₀ L m { s with heap := h, toks := tk } I oI C oC D (lst ys) S (fun y news' => Inv (i + 1) (ys ++ [y]) news')) E' s'
        else CompEnd h₀ L m { s with heap := h, toks := tk } I oI C oC D (lst ys) S (fun _ news' => Inv (i + 1) ys news') Value.none s') E' { s with heap := h, toks := tk }
theorem rest_T {n : Nat} {Inv : Nat → List Value → List (Addr × Obj) → Prop} {Fin : List Value → List (Addr × Obj) → Prop} (turn : TurnT prog w A h₀ L m env ct elt x scope cl s S P n Inv) (fin : ∀ ys news, Inv n ys news → Fin ys news) :
    ∀ k i ys news, i + k = n → S news → Inv i ys news → CompRestT prog w A h₀ L m env ct elt x scope cl s S P Fin k i ys news
  | 0, i, ys, news, e, _, hi => CompRestT.zero (by
      obtain rfl : i = n := by omega
      exact fin _ _ hi)
  | k + 1, i, ys, news, e, hS, hi => CompRestT.succ fun v I oI C oC D m₂ h tk E' hP hC hx F N off ne =>
      wpAny_mono (turn i ys news v I oI C oC D m₂ h tk E' (by omega) hi hS hP hC hx F N off ne) (fun ok s' z => by
        cases ok with
        | true =>
          simp only [if_true] at z ⊢
          exact wpAny_mono z (fun y s'' z' => ce_mono z' fun news' hS' hi' => rest_T turn fin k (i + 1) (ys ++ [y]) news' (by omega) hS' hi') fun _ _ z => z
        | false =>
          simp only [Bool.false_eq_true, if_false] at z ⊢
          exact ce_mono z fun news' hS' hi' => rest_T turn fin k (i + 1) ys news' (by omega) hS' hi') fun _ _ z => z
noncomputable def TurnP (prog : Program) (w : World) (A : Around) (h₀ : Heap) (L : Addr) (m : Str → Option Value) (env : Env) (elt : Expr) (x x₂ : Str) (scope : Scope) (cl : List (Str × Addr)) (s : Shared) (S : List (Addr × Obj) → Prop) (P : Nat → Value → Prop) (n : Nat) (Inv : Nat → List Value → List (Addr × Obj) → Prop) : Prop :=
  ∀ i ys news v, i < n → Inv i ys news → S news → P i v → ∃ (t : Addr) (ot : Obj) (v₁ v₂ : Value) (nt : Nat), v = .ref t ∧ (t, ot) ∈ news ∧ ot.cls = .type "tuple" ∧ ot.data = .seq #[v₁, v₂] nt ∧
      ∀ I oI C oC D m₂ h tk (E' : Value → Shared → Prop), NsObj oC m₂ → m₂ x = some v₁ → m₂ x₂ = some v₂ → Fr h₀ L h m → News h₀ L h ((I, oI) :: (C, oC) :: (D, lst ys) :: news) → Off3 I C D news → ((@Ne Nat I C) ∧ (@Ne Nat I D) ∧ (@Ne Nat C D)) →
      wpAny (model prog w) A (eval elt (compEnvC scope cl C env)) (CompEnd h₀ L m { s with heap := h, toks := tk } I oI C oC D (lst ys) S (fun y news' => Inv (i + 1) (ys ++ [y]) news')) E' { s with heap := h, toks := tk }
theorem rest_P {x₂ : Str} {n : Nat} {Inv : Nat → List Value → List (Addr × Obj) → Prop} {Fin : List Value → List (Addr × Obj) → Prop} (turn : TurnP prog w A h₀ L m env elt x x₂ scope cl s S P n Inv) (fin : ∀ ys news, Inv n ys news → Fin ys news) :
    ∀ k i ys news, i + k = n → S news → Inv i ys news → LCp.CompRestP prog w A h₀ L m env elt x x₂ scope cl s S P Fin k i ys news
  | 0, i, ys, news, e, _, hi => LCp.CompRestP.zero (by
      obtain rfl : i = n := by omega
      exact fin _ _ hi)
  | k + 1, i, ys, news, e, hS, hi => LCp.CompRestP.succ fun v hP => by
      obtain ⟨t, ot, v₁, v₂, nt, h1, h2, h3, h4, hT⟩ := turn i ys news v (by omega) hi hS hP
      exact ⟨t, ot, v₁, v₂, nt, h1, h2, h3, h4, fun I oI C oC D m₂ h tk E' hC hx hx2 F N off ne =>
        wpAny_mono (hT I oI C oC D m₂ h tk E' hC hx hx2 F N off ne) (fun y s' z => ce_mono z fun news' hS' hi' => rest_P turn fin k (i + 1) (ys ++ [y]) news' (by omega) hS' hi') fun _ _ z => z⟩
section
variable {b : Int} {r : Addr} {t u v : Tok} {news : List (Addr × Obj)} {Inv : Nat → List Value → List (Addr × Obj) → Prop} {Fin : Shared → List Value → List (Addr × Obj) → Prop}
theorem src_range (hh : A.handled = none) (F : Fr h₀ L s₁.heap m) (N : News h₀ L s₁.heap news) (hr : IsRange s₁.heap r 0 b 1 t u v) (hb : 0 ≤ b) (hb2 : b ≤ 100000) (h0 : Inv 0 [] news)
    (turn : ∀ g, TurnU prog w A h₀ L m env elt x scope cl { s₁ with heap := g } (fun _ => True) (fun i v => ∃ t, v = .int (i : Int) t) b.toNat Inv) (fin : ∀ g ys news, Inv b.toNat ys news → Fin { s₁ with heap := g } ys news) :
    CompSrc prog w A h₀ L m env elt x scope cl Fin (.ref r) s₁ := by
  refine CompSrc.range (n := b.toNat) hh F N hr (small_one (by decide) (by decide) (by omega) (by omega)) (by rw [rangeSize_nat]; simp) (by rw [sizeLine_eq]; omega) fun g => ?_
  refine rest_U (Inv := Inv) (fun i ys news v I oI C oC D m₂ h tk E' hi hI hS hP => turn g i ys news v I oI C oC D m₂ h tk E' hi hI hS ?_) (fin g) _ 0 [] news (by omega) trivial h0
  obtain ⟨t, rfl⟩ := hP
  exact ⟨t, by rw [Int.zero_add]⟩
theorem srcT_range (hh : A.handled = none) (F : Fr h₀ L s₁.heap m) (N : News h₀ L s₁.heap news) (hr : IsRange s₁.heap r 0 b 1 t u v) (hb : 0 ≤ b) (hb2 : b ≤ 100000) (h0 : Inv 0 [] news)
    (turn : ∀ g, TurnT prog w A h₀ L m env ct elt x scope cl { s₁ with heap := g } (fun _ => True) (fun i v => ∃ t, v = .int (i : Int) t) b.toNat Inv) (fin : ∀ g ys news, Inv b.toNat ys news → Fin { s₁ with heap := g } ys news) :
    CompSrcT prog w A h₀ L m env ct elt x scope cl Fin (.ref r) s₁ := by
  refine CompSrcT.range (n := b.toNat) hh F N hr (small_one (by decide) (by decide) (by omega) (by omega)) (by rw [rangeSize_nat]; simp) (by rw [sizeLine_eq]; omega) fun g => ?_
  refine rest_T (Inv := Inv) (fun i ys news v I oI C oC D m₂ h tk E' hi hI hS hP => turn g i ys news v I oI C oC D m₂ h tk E' hi hI hS ?_) (fin g) _ 0 [] news (by omega) trivial h0
  obtain ⟨t, rfl⟩ := hP
  exact ⟨t, by rw [Int.zero_add]⟩
end
section
variable {ax : Addr} {its : Array Value} {k : Nat} {news : List (Addr × Obj)} {Inv : Nat → List Value → List (Addr × Obj) → Prop} {Fin : Shared → List Value → List (Addr × Obj) → Prop}
theorem src_list (hh : A.handled = none) (F : Fr h₀ L s₁.heap m) (N : News h₀ L s₁.heap news) (hm : (ax, ({ cls := .type "list", data := .seq its k } : Obj)) ∈ news) (hsz : its.size ≤ sizeLine) (h0 : Inv 0 [] news)
    (turn : ∀ g, TurnU prog w A h₀ L m env elt x scope cl { s₁ with heap := g } (SrcAt h₀ ax its) (fun i v => its[i]? = some v) its.size Inv) (fin : ∀ g ys news, Inv its.size ys news → Fin { s₁ with heap := g } ys news) :
    CompSrc prog w A h₀ L m env elt x scope cl Fin (.ref ax) s₁ :=
  CompSrc.ledger hh F N hm hsz fun g => rest_U (Inv := Inv) (turn g) (fin g) _ 0 [] news (by omega) (.inr ⟨_, hm, rfl, _, rfl⟩) h0
theorem srcT_list (hh : A.handled = none) (F : Fr h₀ L s₁.heap m) (N : News h₀ L s₁.heap news) (hm : (ax, ({ cls := .type "list", data := .seq its k } : Obj)) ∈ news) (hsz : its.size ≤ sizeLine) (h0 : Inv 0 [] news)
    (turn : ∀ g, TurnT prog w A h₀ L m env ct elt x scope cl { s₁ with heap := g } (SrcAt h₀ ax its) (fun i v => its[i]? = some v) its.size Inv) (fin : ∀ g ys news, Inv its.size ys news → Fin { s₁ with heap := g } ys news) :
    CompSrcT prog w A h₀ L m env ct elt x scope cl Fin (.ref ax) s₁ :=
  CompSrcT.ledger hh F N hm hsz fun g => rest_T (Inv := Inv) (turn g) (fin g) _ 0 [] news (by omega) (.inr ⟨_, hm, rfl, _, rfl⟩) h0
end
section
variable {ax : Addr} {its : Array Value} {news : List (Addr × Obj)}
noncomputable def TSrcAt (ax : Addr) (its : Array Value) (news : List (Addr × Obj)) : Prop := ∃ o, (ax, o) ∈ news ∧ o.cls = .type "tuple" ∧ ∃ n, o.data = .seq its n
theorem TSrcAt.tup {h : Heap} (x : TSrcAt ax its news) (N : News h₀ L h news) : h.IsTuple ax its := by
  obtain ⟨o, hm, r⟩ := x
  exact ⟨o, (N _ hm).1, r⟩
theorem tup_st {I : Addr} : ∀ i (h h' : Heap) (o : Obj) (nw : List (Addr × Obj)), (h.IsTupleIter I ax i ∧ h.IsTuple ax its) → h.get? I = some o → h'.get? I = some o → (∀ b o, h₀.get? b = some o → h'.get? b = some o) → News h₀ L h' nw → TSrcAt ax its nw → (h'.IsTupleIter I ax i ∧ h'.IsTuple ax its) :=
  fun i h h' o nw st e e' k N S => ⟨by obtain ⟨o', q, r⟩ := st.1; rw [e] at q; cases q; exact ⟨o, e', r⟩, S.tup N⟩
/-- a comprehension over a tuple that the call has made -/
theorem ListComp_Tp {elt iter : Expr} {x : Str} {px : Pos} {scope : Scope} {cl : List (Str × Addr)} {pos : Pos} {Q : Value → Shared → Prop} (F₀ : Fr h₀ L s.heap m)
    (hclos : closureFor scope env = pure cl) (hcell : ∀ y ∈ scope.names, y.2 ≠ .cell) (hkind : scope.kind = .function)
    (hnames : ∀ y ∈ scope.names, y.2 = .local → scope.names.lookup y.1 = some .local) (hx : scope.names.lookup x = some .local)
    (h : wpAny (model prog w) A (eval iter env) (fun xv s₁ => ∃ ax its news, xv = .ref ax ∧ A.handled = none ∧ Fr h₀ L s₁.heap m ∧ News h₀ L s₁.heap news ∧ TSrcAt ax its news ∧ its.size ≤ sizeLine ∧
      ∀ g, CompRest prog w A h₀ L m env elt x scope cl { s₁ with heap := g } (TSrcAt ax its) (fun i v => its[i]? = some v) (FinE h₀ L m { s₁ with heap := g } Q) its.size 0 [] news) E s)
    (hs : ∀ x, foldedSetIterable iter env x = pure x := by intro _; rfl) :
    wpAny (model prog w) A (eval (.ListComp elt [⟨.Name x px, iter, [], 0⟩] scope pos) env) Q E s := by
  rw [eval_ListComp]
  refine wpAny_comprehension_free (use := none) rfl hs hclos hkind hnames (wpAny_mono h (fun xv s₁ h₁ => ?_) fun _ _ e => e)
  obtain ⟨ax, its, news, rfl, hh, F, N, S, hsz, R⟩ := h₁
  have hl := S.tup N
  have hlt : ax < s₁.heap.objs.size := by obtain ⟨_, e, _⟩ := hl; exact Heap.lt_size e
  refine wpAny_pyIter_tuple hl ?_
  have up : ∀ b o, s₁.heap.get? b = some o → (s₁.heap.push { cls := .type "tuple_iterator", data := .fields #[.ref ax, .int 0 0] }).get? b = some o := fun b o e => Heap.get?_push_of_some _ e
  refine block_U (Walks.tuple hh s₁.heap.objs.size ax (Nat.ne_of_lt hlt) its) hsz (fun i h st => by obtain ⟨o, e, _⟩ := st.1; exact ⟨o, e⟩) tup_st hcell hkind hx ⟨⟨_, Heap.get?_push_size _ rfl, rfl, rfl⟩, hl.at fun o e => up _ _ e⟩ (fun b hb => ?_)
    (F.keeps up) (N.grown up) (Nat.ne_of_lt F.ns.lt) (next_is_new F) (fun p hp => Nat.ne_of_lt (Heap.lt_size (N p hp).1)) S (R _) ?_
  · show b < (s₁.heap.push _).objs.size
    rw [Heap.size_push]
    rcases List.mem_cons.mp hb with rfl | hb
    · exact Nat.lt_succ_self _
    · rw [List.mem_singleton.mp hb]; exact Nat.lt_succ_of_lt hlt
  · intro D C h tk m' ys news' F' N' o1 hn hC₀ hD₀ hCL hDL hCD offC fin
    refine ⟨m', hn, fun h'' hs'' => fin D h'' tk (F'.change hs'' hCL hC₀) (fun p hp => ?_) o1⟩
    refine ⟨hs''.extBut _ _ ?_ (N' p hp).1, (N' p hp).2⟩
    rcases List.mem_cons.mp hp with rfl | hp
    · exact Ne.symm hCD
    · exact offC p hp
end
end
end
/- LTerm -/
theorem freshLTerm : True := by
  w_top off
  trivial
local macro_rules | `(tactic| ktr_rel) => `(tactic| ((rename News _ _ _ _ => N'); (try dsimp only at N'); k_sweep))
section
variable {w : World} {A₀ : Around} {s : Shared} {base h₀ : Heap} {outer : List Env} {L a : Addr} {m : PySem.Str → Option Value} {news : List (Addr × Obj)} {mean : ExcName → Option Value} {mg mb : PySem.Str → Option Value}
  {dp un : Nat} {gd : Option (List Code)} {cn : PySem.Str} {cs : Scope} {ccd : Value} {cl : List (PySem.Str × Addr)}
  {R : Result → Shared → Prop} {name qual : PySem.Str} {params : Arguments} {body body₀ : List Stmt} {scope scope₀ : Scope} {dV kV doc pm cdv ct oc : Value} {an od : Option Addr} {osl : Array (Option Value)} {f : Addr} {args : Args} {binds : List (PySem.Str × Value)}
/-- «enter» for a def some of whose names are closed over -/
theorem enterC (C : Cx w s.heap A₀ base h₀ cs outer L m mean mg mb) (N : News h₀ L s.heap news)
    (ho : (Mine.hd.heap_39 w.params).lookup f = some ⟨oc, od, .func (fnOf name qual params body₀ scope₀ dV kV doc pm an cdv ct), osl⟩) (hcd : codeIn (Mine.hd.heap_39 w.params) cdv qual = true) (hroom : dp < recursionLimit)
    (hbind : BindsTo s (fnOf name qual params body scope dV kV doc pm an cdv ct) args binds) (hkind : (binds.all fun y => scope.names.lookup y.1 == some .local || scope.names.lookup y.1 == some .cell) = true)
    (hnd : ((cellsFrom 0 scope.names []).map (·.1)).Nodup)
    (h : ∀ g L' h₁ tk cells, (∀ b o, b ∉ news.map (·.1) → s.heap.get? b = some o → g.get? b = some o) → (∀ b o, g.get? b = some o → s.heap.get? b = some o) → Fr g L' h₁ (bindL (envOfC qual scope L' f cdv).kindOf binds fun _ => none) → News g L' h₁ (cells ++ news) →
      CellsAre (bindC (envOfC qual scope L' f cdv).kindOf binds fun _ => none) (cellsFrom (L' + 1) scope.names []) cells → Below (ktrTop dp un gd cn cs L a ccd cl outer) base (envX cn cs L a ccd cl :: outer) g → (Mine.hd.heap_39 w.params).In g → Top Mine.hd.view_39 (looseW Mine.hd.view_39 []) mean mg mb g → (∀ p ∈ news, p.1 < L') → (∀ p ∈ cells, s.heap.get? p.1 = none) →
      wpAny (model Challenge.rw_rg0116_01.row.prog w) ((ktrTop dp un gd cn cs L a ccd cl outer).deeper (envOfC qual scope L' f cdv)) (execs body (envOfC qual scope L' f cdv))
        (fun fl s' => R (.ok (.ret (match fl with | .ret v => v | _ => .none))) s')
        (fun e s' => wpAny (model Challenge.rw_rg0116_01.row.prog w) ((ktrTop dp un gd cn cs L a ccd cl outer).deeper (envOfC qual scope L' f cdv)) (leaving (envOfC qual scope L' f cdv) e) (fun _ s'' => R (.error e) s'') (fun e' s'' => R (.error e') s'') s')
        { s with heap := h₁, toks := tk })
    (hco : scope.isCoroutine = false) (hgen : scope.isGenerator = false) (hk : scope.kind = .function) (eb : body₀ = body) (es : scope₀ = scope) : codeAny (model Challenge.rw_rg0116_01.row.prog w) (ktrTop dp un gd cn cs L a ccd cl outer) (.call (.ref f) args) R s := by
  obtain rfl := eb.symm
  obtain rfl := es.symm
  obtain ⟨FG, BG, st, lv⟩ := groundX (A := ktrTop dp un gd cn cs L a ccd cl outer) (R := R) C.B C.F N rfl rfl C.hk
  refine codeAny_call_function hroom ((C.X.keeps C.F.keep) _ _ ho) rfl hco hgen rfl (codeRec_of (C.X.keeps C.F.keep) hcd) (hbind _ _ _ _ ?_)
  refine wpAny_newFunctionEnv_cells hk (kindsX hkind _) fun env' he s' x => ?_
  subst he
  refine ⟨(C.T.nolimit.keeps C.F.keep).keeps x.toInCall.keep, codeAny_func ?_⟩
  obtain ⟨h₁, tk, rfl, _⟩ := x.done
  have hk₁ := x.toInCall.keep
  obtain ⟨cells, NC, Y⟩ := Cl.news (h₀ := s.heap) (Nat.le_refl _) fun n c hm => ⟨x.cell n c (lookup_of_mem_nodup (cellsFrom_names scope.names 0 (s.heap.objs.size + 1) [] [] rfl ▸ hnd) hm), x.above n c hm⟩
  refine h _ s.heap.objs.size h₁ tk cells (fun b o nb e => hideAll_get _ e nb) (fun b o e => of_hideAll _ e) ⟨x.toInCall.ns, fun b o e => hk₁ b o (of_hideAll _ e), Nat.le_of_eq (hideAll_size _ _)⟩ (fun p hp => ?_) Y BG (C.X.keeps st) (C.T.keeps st) (fun p hp => Heap.lt_size (N p hp).1) (fun p hp => (NC p hp).2.2)
  rcases List.mem_append.mp hp with hp | hp
  · refine ⟨(NC p hp).1, (NC p hp).2.1, ?_⟩
    cases q : (hideAll s.heap (news.map (·.1))).get? p.1 with
    | none => rfl
    | some o => have := of_hideAll _ q; rw [(NC p hp).2.2] at this; cases this
  · exact ⟨hk₁ _ _ (N p hp).1, Nat.ne_of_lt (Heap.lt_size (N p hp).1), hideAll_none _ (List.mem_map_of_mem hp)⟩
end
theorem isl_keep {h h' : Heap} {l : Addr} {items : Array Value} (x : h.IsList l items) (k : ∀ b o, h.get? b = some o → h'.get? b = some o) : h'.IsList l items := let ⟨o, ho, r⟩ := x; ⟨o, k l o ho, r⟩
section
variable {w : World} {A₀ : Around} {s : Shared} {base h₀ : Heap} {outer : List Env} {L a : Addr} {m : PySem.Str → Option Value} {mean : ExcName → Option Value} {mg mb : PySem.Str → Option Value} {Q : Value → Shared → Prop} {E : Value → Shared → Prop} {dp un : Nat} {gd : Option (List Code)} {cn : PySem.Str} {cs : Scope} {ccd : Value} {cll : List (PySem.Str × Addr)}
    {ld cl : Addr} {k many : Int} {t3 tm : Tok} {o : Obj} {vs : List Value} {ns : List Int} {news : List (Addr × Obj)} {gn : Obj → List (Addr × Obj)}
theorem hewn_use (B : Below A₀ base outer h₀) (F : Fr h₀ L s.heap m) (X : (Mine.hd.heap_39 w.params).In h₀) (T : Top Mine.hd.view_39 (looseW Mine.hd.view_39 []) mean mg mb h₀) (hk' : cs.kind = .function)
    (N : News h₀ L s.heap news) (ho : LogIs w o cl k t3) (U : UpdF ld o news gn) (hcl : s.heap.IsList cl vs.toArray) (hi : IntsAre vs ns) (hlen : ns.length ≤ 50) (h0 : 0 ≤ k) (hk : k ≤ 10000) (hm : 0 < many) (hm2 : many < 1000) (hd : dp + 3 < recursionLimit) (hu : un + 24 < cLine)
    (h : ∀ r t h' tk' t3' o', 0 ≤ r → r < many → Fr h₀ L h' m → News h₀ L h' (gn o') → LogIs w o' cl (k + 1) t3' → Q (.int r t) { s with heap := h', toks := tk' }) :
    wpAny (model Challenge.rw_rg0116_01.row.prog w) (ktrTop dp un gd cn cs L a ccd cll outer) (call (.ref 269) [.ref ld, .int many tm]) Q E s := by
  obtain ⟨pre, post, rfl, hg, h1, h2⟩ := U.split
  have Nd := N (ld, o) (List.mem_append_right _ (.head _))
  refine hewn_ok ⟨B, F, X, T, hk'⟩ (fun p hp => by rw [List.mem_singleton.mp hp]; exact Nd) ho hcl hi hlen h0 hk hm hm2 hd hu (fun r t h' tk' t3' hr0 hr1 kp o' ho' hl' => ?_)
  refine h r t h' tk' t3' o' hr0 hr1 (kp_fr F kp (by simpa using Ne.symm Nd.2.1) (by simpa using Nd.2.2)) (fun p hp => ?_) hl'
  rw [hg] at hp
  rcases List.mem_append.mp hp with hp | hp
  · exact ⟨kp _ _ (by simpa using h1 p hp) (N p (List.mem_append_left _ hp)).1, (N p (List.mem_append_left _ hp)).2⟩
  · rcases List.mem_cons.mp hp with rfl | hp
    · exact ⟨ho', Nd.2⟩
    · exact ⟨kp _ _ (by simpa using h2 p hp) (N p (List.mem_append_right _ (.tail _ hp))).1, (N p (List.mem_append_right _ (.tail _ hp))).2⟩
end
noncomputable def leafNames : List PySem.Str := ["a", "b1", "?x", "=>"]
noncomputable def nodeNames : List PySem.Str := ["f", "g-2"]
section
variable {prog : Program} {w : World} {A : Around} {E : Value → Shared → Prop} {s : Shared} {value slice : PySem.Expr} {l : Addr} {r : Int} {u a b c d : Tok} {Q : Value → Shared → Prop}
theorem leaf_item (hT : IsTup s.heap l #[.str "a" a, .str "b1" b, .str "?x" c, .str "=>" d]) (h0 : 0 ≤ r) (h1 : r < 4) (h : ∀ g t, g ∈ leafNames → Q (.str g t) s)
    (hs : subscripted slice false (.ref l) (.int r u) = operate [.ref l, .int r u] (getItem (.ref l) (.int r u)) := by with_unfolding_all rfl) :
    wpAny (model prog w) A (subscriptTail value slice (.ref l) (.int r u)) Q E s := by
  have h4 : r = 0 ∨ r = 1 ∨ r = 2 ∨ r = 3 := by omega
  have hT' : IsTup s.heap l [Value.str "a" a, Value.str "b1" b, Value.str "?x" c, Value.str "=>" d].toArray := hT
  rcases h4 with rfl | rfl | rfl | rfl
  · exact item_tupleT hT' (by decide) (by decide) rfl rfl (h _ _ (.head _)) hs
  · exact item_tupleT hT' (by decide) (by decide) rfl rfl (h _ _ (.tail _ (.head _))) hs
  · exact item_tupleT hT' (by decide) (by decide) rfl rfl (h _ _ (.tail _ (.tail _ (.head _)))) hs
  · exact item_tupleT hT' (by decide) (by decide) rfl rfl (h _ _ (.tail _ (.tail _ (.tail _ (.head _))))) hs
theorem node_item (hT : IsTup s.heap l #[.str "f" a, .str "g-2" b]) (h0 : 0 ≤ r) (h1 : r < 2) (h : ∀ g t, g ∈ nodeNames → Q (.str g t) s)
    (hs : subscripted slice false (.ref l) (.int r u) = operate [.ref l, .int r u] (getItem (.ref l) (.int r u)) := by with_unfolding_all rfl) :
    wpAny (model prog w) A (subscriptTail value slice (.ref l) (.int r u)) Q E s := by
  have h4 : r = 0 ∨ r = 1 := by omega
  have hT' : IsTup s.heap l [Value.str "f" a, Value.str "g-2" b].toArray := hT
  rcases h4 with rfl | rfl
  · exact item_tupleT hT' (by decide) (by decide) rfl rfl (h _ _ (.head _)) hs
  · exact item_tupleT hT' (by decide) (by decide) rfl rfl (h _ _ (.tail _ (.head _))) hs
end
/-- the terms that the law draws -/
inductive Gd : Nat → Tm → Prop
  | leaf {n : Nat} {o : PySem.Str} : o ∈ leafNames → Gd n (.node o [])
  | one {n : Nat} {o : PySem.Str} {t : Tm} : o ∈ nodeNames → Gd n t → Gd (n + 1) (.node o [t])
  | two {n : Nat} {o : PySem.Str} {t t' : Tm} : o ∈ nodeNames → Gd n t → Gd n t' → Gd (n + 1) (.node o [t, t'])
noncomputable def bnd : Nat → Nat
  | 0 => 1
  | n + 1 => 2 + 2 * bnd n
noncomputable def LTermOk (n : Nat) : Prop := ∀ {w : World} {A₀ : Around} {s : Shared} {base h₀ : Heap} {outer : List Env} {L a : Addr} {m : PySem.Str → Option Value} {mean : ExcName → Option Value} {mg mb : PySem.Str → Option Value} {Q : Value → Shared → Prop} {E : Value → Shared → Prop} {dp un : Nat} {gd : Option (List Code)} {cn : PySem.Str} {cs : Scope} {ccd : Value} {cll : List (PySem.Str × Addr)}
    {ld cl : Addr} {k : Int} {t3 tf : Tok} {o : Obj} {vs : List Value} {ns : List Int},
    Cx w s.heap A₀ base h₀ cs outer L m mean mg mb → News h₀ L s.heap [(ld, o)] → LogIs w o cl k t3 → s.heap.IsList cl vs.toArray → IntsAre vs ns → ns.length ≤ 50 → 0 ≤ k → k + bnd n ≤ 10000 → dp + 20 + 10 * n < recursionLimit → un + 100 + 20 * n < cLine →
    (∀ T v ex h' tk' k' t3' o', Gd n T → k ≤ k' → k' ≤ k + bnd n → Kp [ld] s.heap h' → h'.get? ld = some o' → LogIs w o' cl k' t3' → (∀ x ∈ ex, h'.get? x.1 = some x.2 ∧ s.heap.get? x.1 = none) → TmIn ex v T → Q v { s with heap := h', toks := tk' }) →
    wpAny (model Challenge.rw_rg0116_01.row.prog w) (ktrTop dp un gd cn cs L a ccd cll outer) (call (.ref 307) [.ref ld, .int n tf]) Q E s
theorem cl_ne {w : World} {h₀ h : Heap} {L ld cl : Addr} {o : Obj} {k : Int} {t3 : Tok} {vs : List Value} (N : News h₀ L h [(ld, o)]) (ho : LogIs w o cl k t3) (hcl : h.IsList cl vs.toArray) : cl ≠ ld := by
  rintro rfl
  obtain ⟨o1, ho1, _, n', hd'⟩ := hcl
  have := (N _ (List.mem_singleton.mpr rfl)).1
  rw [ho1] at this
  cases this
  obtain ⟨_, _, _, hd2, _⟩ := ho
  rw [hd'] at hd2
  cases hd2
theorem lleaf_fin {s : Shared} {h₀ g' h2 : Heap} {L L' D ld : Addr} {m' : PySem.Str → Option Value} {o o' : Obj} {x : PySem.Str} {t : Tok} {news : List (Addr × Obj)} {P : Heap → Prop} (N : News h₀ L s.heap [(ld, o)]) (hg' : ∀ b o1, b ∉ [(ld, o)].map (·.1) → s.heap.get? b = some o1 → g'.get? b = some o1)
    (F2 : Fr g' L' h2 m') (N2 : News g' L' h2 ((D, tupOf [.str x t]) :: news)) (hm : (ld, o') ∈ news) (lt : ld < D)
    (hQ : Kp [ld] s.heap h2 → h2.get? ld = some o' → (∀ y ∈ [(D, tupOf [.str x t])], h2.get? y.1 = some y.2 ∧ s.heap.get? y.1 = none) → P h2) : P h2 := by
  refine hQ (kp_of N hg' F2 N2 (fun p hp np => ?_)) (N2 _ (.tail _ hm)).1 (fun y hy => ?_)
  · rw [List.mem_singleton.mp hp] at np
    exact absurd (List.mem_singleton.mpr rfl) np
  · rw [List.mem_singleton.mp hy]
    exact ⟨(N2 _ (.head _)).1, new_of hg' (N2 _ (.head _)).2.2 (fun x hx => by rw [List.mem_singleton.mp hx]; exact Nat.ne_of_lt lt)⟩
set_option maxHeartbeats 4000000 in
theorem lterm_zero : LTermOk 0 := by
  intro w A₀ s base h₀ outer L a m mean mg mb Q E dp un gd cn cs ccd cll ld cl k t3 tf o vs ns C N ho hcl hi hlen h0 hk hd hu hQ
  have hb : bnd 0 = 1 := rfl
  rw [hb] at hk hQ
  have hd9 : dp + 20 < recursionLimit := by omega
  have hu9 : un + 100 < cLine := by omega
  refine wpAny_call ?_
  with_unfolding_all refine' enterC (binds := [("log", .ref ld), ("floors", .int (0 : Nat) tf)]) ?kC ?kN ?k6 ?k7 ?k8 ?k9 ?kB ?kD ?_ ?c2 ?c3 ?c4 ?eb ?es
  k_dflt ((case kC => assumption); (case kN => assumption); (case k6 => k_is); (case eb => (conv => lhs; whnf)); (case es => (conv => lhs; whnf)); (case k7 => k_is); (case k8 => first | exact room0 (by assumption) | omega); (case k9 => exact BindsTo.of_eq rfl); (case kB => exact rfl); (case kD => decide +kernel); (case c2 => exact rfl); (case c3 => exact rfl); (case c4 => exact rfl))
  intro g' L' h' tk' cells' hg' hs' F' N' Y' B' X' T' l1 hcn
  k_lt l1
  k_cells Y'
  simp only [List.cons_append, List.nil_append] at N'
  dsimp only
  have hcl' : g'.IsList cl vs.toArray := by
    obtain ⟨o1, ho1, r⟩ := hcl
    exact ⟨o1, hg' _ _ (by simpa using cl_ne N ho ⟨o1, ho1, r⟩) ho1, r⟩
  (repeat' (first | (k_unfold; (try dsimp only)) | ((fail_if_success (with_reducible first | refine stop_at [76, 307] (by decide) ?_ | refine stop_st (by decide) ?_ | refine stop_bl (by decide) ?_ | refine stop_lc ?_ | refine stop_jp ?_ | show LCg.CompSrc _ _ _ _ _ _ _ _ _ _ _ _ _ _ | show LCt.CompSrcT _ _ _ _ _ _ _ _ _ _ _ _ _ _ _)); (first | ((with_reducible refine stop_cr ?_); first | (k_here; (with_reducible show wpAny _ _ (call (Value.ref 269) _) _ _ _); k_dflt (refine' hewn_use ?B ?F ?X ?T ?hk ?N ?ho ?U ?hcl ?hi ?hl ?h0 ?h1 ?m0 ?m1 ?d ?u ?_; (case B => k_asm); (case F => k_asm); (case X => k_asm); (case T => k_asm); (case hk => exact rfl); (case N => k_asm); (case ho => assumption); (case U => k_updF); (case hcl => first | (with_reducible assumption) | exact isl_keep (by assumption) (Fr.keep (by k_asm)) | exact News.isList (by k_asm) (by k_mem)); (case hi => assumption); (case hl => assumption); (case h0 => omega); (case h1 => omega); (case m0 => first | decide | omega); (case m1 => first | decide | omega); (case d => first | exact room2 (by assumption) (by exact rfl) | exact room1 (by assumption) (by exact rfl) | omega | (dsimp only [ktrTop]; omega)); (case u => first | exact room2 (by assumption) (by exact rfl) | exact room1 (by assumption) (by exact rfl) | omega | (dsimp only [ktrTop]; omega))); intro _ _ _ _ _ _ _ _ _ _ _; ktr_rel)) | (k_here; (with_reducible show wpAny _ _ (subscriptTail _ _ (Value.ref _) (Value.int _ _)) _ _ _); k_dflt (first | (refine' leaf_item ?t ?a ?b ?_; (case t => exact News.isTup (by k_asm) (by k_mem)); (case a => assumption); (case b => assumption)) | (refine' node_item ?t ?a ?b ?_; (case t => exact News.isTup (by k_asm) (by k_mem)); (case a => assumption); (case b => assumption))); intro _ _ _) | walk1 | (dsimp only; first | walk1 | (k_unfold; (try dsimp only)))))))
  all_goals (
    rename Fr g' _ _ _ => F9
    rename News g' _ _ ((_, tupOf [_]) :: _) => N9
    rename LogIs w _ cl (k + 1) _ => D9
    rename _ ∧ _ ∧ _ => lt9
    exact lleaf_fin (P := fun h => Q (.ref _) { s with heap := h, toks := _ }) N hg' F9 N9 (by k_dflt k_mem) (by first | exact lt9.2.2.2 | omega) (fun kp hl hex => hQ _ _ _ _ _ _ _ _ (.leaf (by assumption)) (by omega) (by omega) kp hl D9 hex (.node (.head _) .nil)))
/- LTerm2 -/
theorem freshLTerm2 : True := by
  w_top off
  trivial
theorem led_log {g h h' : Heap} {L ld : Addr} {m : PySem.Str → Option Value} {o' o'' : Obj} {all ex : List (Addr × Obj)} (F : Fr g L h m) (N : News g L h all) (kp : Kp [ld] h h') (hl : h'.get? ld = some o'') (hld : (ld, o') ∈ all) (hex : ∀ x ∈ ex, h'.get? x.1 = some x.2 ∧ h.get? x.1 = none) :
    ∀ p, (p ∈ ex ∨ (p ∈ all ∧ p.1 ≠ ld) ∨ p = (ld, o'')) → h'.get? p.1 = some p.2 ∧ p.1 ≠ L ∧ g.get? p.1 = none := fun p hp => by
  rcases hp with hp | ⟨hp, hne⟩ | rfl
  · have h1 := (hex p hp).2
    refine ⟨(hex p hp).1, fun e => ?_, ?_⟩
    · obtain ⟨o, _, _, ho, _⟩ := F.ns
      rw [e, ho] at h1
      cases h1
    · cases z : g.get? p.1 with
      | none => rfl
      | some o => rw [F.keep _ _ z] at h1; cases h1
  · exact ⟨kp _ _ (by simpa using hne) (N p hp).1, (N p hp).2⟩
  · exact ⟨hl, (N _ hld).2⟩
theorem frange {r : Int} : 0 ≤ 1 + r.fmod 2 ∧ 1 + r.fmod 2 ≤ 100000 := by
  have h1 := fmod_lo r (show (0 : Int) < 2 by decide)
  have h2 := fmod_hi r (show (0 : Int) < 2 by decide)
  omega
theorem frange_nat {r : Int} : (1 + r.fmod 2).toNat = 1 ∨ (1 + r.fmod 2).toNat = 2 := by
  have h1 := fmod_lo r (show (0 : Int) < 2 by decide)
  have h2 := fmod_hi r (show (0 : Int) < 2 by decide)
  omega
theorem off_log {I C D ld : Addr} {h h' : Heap} {o' o'' oI oC oD : Obj} {pre ex : List (Addr × Obj)} (off : LCg.Off3 I C D (pre ++ [(ld, o')])) (hI : h.get? I = some oI) (hC : h.get? C = some oC) (hD : h.get? D = some oD) (hex : ∀ x ∈ ex, h'.get? x.1 = some x.2 ∧ h.get? x.1 = none) : LCg.Off3 I C D (ex ++ (pre ++ [(ld, o'')])) :=
  LCg.Off3.of fun p hp => by
    rcases List.mem_append.mp hp with hp | hp
    · have h1 := (hex p hp).2
      refine ⟨fun e => ?_, fun e => ?_, fun e => ?_⟩
      · rw [e, hI] at h1; cases h1
      · rw [e, hC] at h1; cases h1
      · rw [e, hD] at h1; cases h1
    · rcases List.mem_append.mp hp with hp | hp
      · exact off.mem p (List.mem_append_left _ hp)
      · rw [List.mem_singleton.mp hp]
        exact off.mem (ld, o') (List.mem_append_right _ (List.mem_singleton.mpr rfl))
set_option maxHeartbeats 8000000 in
theorem lterm_succ (n : Nat) (IH : LTermOk n) : LTermOk (n + 1) := by
  intro w A₀ s base h₀ outer L a m mean mg mb Q E dp un gd cn cs ccd cll ld cl k t3 tf o vs ns C N ho hcl hi hlen h0 hk hd hu hQ
  have hb : bnd (n + 1) = 2 + 2 * bnd n := rfl
  rw [hb] at hk hQ
  have hd9 : dp + 20 < recursionLimit := by omega
  have hu9 : un + 100 < cLine := by omega
  refine wpAny_call ?_
  with_unfolding_all refine' enterC (binds := [("log", .ref ld), ("floors", .int (n + 1 : Nat) tf)]) ?kC ?kN ?k6 ?k7 ?k8 ?k9 ?kB ?kD ?_ ?c2 ?c3 ?c4 ?eb ?es
  k_dflt ((case kC => assumption); (case kN => assumption); (case k6 => k_is); (case eb => (conv => lhs; whnf)); (case es => (conv => lhs; whnf)); (case k7 => k_is); (case k8 => first | exact room0 (by assumption) | omega); (case k9 => exact BindsTo.of_eq rfl); (case kB => exact rfl); (case kD => decide +kernel); (case c2 => exact rfl); (case c3 => exact rfl); (case c4 => exact rfl))
  intro g' L' h' tk' cells' hg' hs' F' N' Y' B' X' T' l1 hcn
  k_lt l1
  obtain ⟨oc2, oc1, hE', d1', d2'⟩ := CellsAre.two Y'
  subst hE'
  clear Y'
  dsimp only [List.cons_append, List.nil_append] at N'
  dsimp only
  have hcl' : g'.IsList cl vs.toArray := by
    obtain ⟨o1, ho1, r⟩ := hcl
    exact ⟨o1, hg' _ _ (by simpa using cl_ne N ho ⟨o1, ho1, r⟩) ho1, r⟩
  have hfl : (0 : Int) < (n + 1 : Nat) := by omega
  (repeat' (first | (k_unfold; (try dsimp only)) | ((fail_if_success (with_reducible first | refine stop_at [76, 307] (by decide) ?_ | refine stop_st (by decide) ?_ | refine stop_bl (by decide) ?_ | refine stop_lc ?_ | refine stop_jp ?_ | show LCg.CompSrc _ _ _ _ _ _ _ _ _ _ _ _ _ _ | show LCt.CompSrcT _ _ _ _ _ _ _ _ _ _ _ _ _ _ _)); (first | ((with_reducible refine stop_cr ?_); first | (k_here; (with_reducible show wpAny _ _ (call (Value.ref 269) _) _ _ _); k_dflt (refine' hewn_use ?B ?F ?X ?T ?hk ?N ?ho ?U ?hcl ?hi ?hl ?h0 ?h1 ?m0 ?m1 ?d ?u ?_; (case B => k_asm); (case F => k_asm); (case X => k_asm); (case T => k_asm); (case hk => exact rfl); (case N => k_asm); (case ho => assumption); (case U => k_updF); (case hcl => first | (with_reducible assumption) | exact isl_keep (by assumption) (Fr.keep (by k_asm)) | exact News.isList (by k_asm) (by k_mem)); (case hi => assumption); (case hl => assumption); (case h0 => omega); (case h1 => omega); (case m0 => first | decide | omega); (case m1 => first | decide | omega); (case d => first | exact room2 (by assumption) (by exact rfl) | exact room1 (by assumption) (by exact rfl) | omega | (dsimp only [ktrTop]; omega)); (case u => first | exact room2 (by assumption) (by exact rfl) | exact room1 (by assumption) (by exact rfl) | omega | (dsimp only [ktrTop]; omega))); intro _ _ _ _ _ _ _ _ _ _ _; ktr_rel)) | (k_here; (with_reducible show wpAny _ _ (subscriptTail _ _ (Value.ref _) (Value.int _ _)) _ _ _); k_dflt (first | (refine' leaf_item ?t ?a ?b ?_; (case t => exact News.isTup (by k_asm) (by k_mem)); (case a => assumption); (case b => assumption)) | (refine' node_item ?t ?a ?b ?_; (case t => exact News.isTup (by k_asm) (by k_mem)); (case a => assumption); (case b => assumption))); intro _ _ _) | walk1 | (dsimp only; first | walk1 | (k_unfold; (try dsimp only)))))))
  any_goals (
    rename Fr g' _ _ _ => F9
    rename News g' _ _ ((_, tupOf [_]) :: _) => N9
    rename LogIs w _ cl (k + 1 + 1) _ => D9
    rename _ ∧ _ ∧ _ => lt9
    exact lleaf_fin (P := fun h => Q (.ref _) { s with heap := h, toks := _ }) N hg' F9 N9 (by k_dflt k_mem) (by first | exact lt9.2.2.2 | omega) (fun kp hl hex => hQ _ _ _ _ _ _ _ _ (.leaf (by assumption)) (by omega) (by omega) kp hl D9 hex (.node (.head _) .nil)))
  all_goals (
    rename Fr g' _ _ _ => F5
    rename News g' _ _ _ => N5
    rename LogIs w _ cl (k + 1 + 1) _ => D5
    rename_i o5 hr0 hr1 gE gT gM D h5 l5
    obtain ⟨nm, t2, tt, hnm, ht2, N6⟩ : ∃ (nm : PySem.Str) (t2 : Addr × Obj) (tt : Tok), nm ∈ nodeNames ∧ t2.1 ≠ ld ∧ News g' L' h5 [(D, tupOf [.str nm tt]), t2, (L' + 1 + 1, oc2), (L' + 1, oc1), (ld, o5)] := ⟨_, _, _, by assumption, by (refine Nat.ne_of_gt ?_; dsimp only; omega), N5⟩
    clear N5
    have d1 : oc1.data = .cell (some (.ref ld)) := d2'
    have d2 : oc2.data = .cell (some (.int (n + 1 : Nat) tf)) := d1'
    refine LCg.ListComp_U (F₀ := F5) (by with_unfolding_all rfl) (by decide) (by rfl) (by decide) (by rfl) ?_
    (repeat' (first | (k_unfold; (try dsimp only)) | ((fail_if_success (with_reducible first | refine stop_at [76, 307] (by decide) ?_ | refine stop_st (by decide) ?_ | refine stop_bl (by decide) ?_ | refine stop_lc ?_ | refine stop_jp ?_ | show LCg.CompSrc _ _ _ _ _ _ _ _ _ _ _ _ _ _ | show LCt.CompSrcT _ _ _ _ _ _ _ _ _ _ _ _ _ _ _)); (first | ((with_reducible refine stop_cr ?_); first | (k_here; (with_reducible show wpAny _ _ (call (Value.ref 269) _) _ _ _); k_dflt (refine' hewn_use ?B ?F ?X ?T ?hk ?N ?ho ?U ?hcl ?hi ?hl ?h0 ?h1 ?m0 ?m1 ?d ?u ?_; (case B => k_asm); (case F => k_asm); (case X => k_asm); (case T => k_asm); (case hk => exact rfl); (case N => k_asm); (case ho => assumption); (case U => k_updF); (case hcl => first | (with_reducible assumption) | exact isl_keep (by assumption) (Fr.keep (by k_asm)) | exact News.isList (by k_asm) (by k_mem)); (case hi => assumption); (case hl => assumption); (case h0 => omega); (case h1 => omega); (case m0 => first | decide | omega); (case m1 => first | decide | omega); (case d => first | exact room2 (by assumption) (by exact rfl) | exact room1 (by assumption) (by exact rfl) | omega | (dsimp only [ktrTop]; omega)); (case u => first | exact room2 (by assumption) (by exact rfl) | exact room1 (by assumption) (by exact rfl) | omega | (dsimp only [ktrTop]; omega))); intro _ _ _ _ _ _ _ _ _ _ _; ktr_rel)) | (k_here; (with_reducible show wpAny _ _ (subscriptTail _ _ (Value.ref _) (Value.int _ _)) _ _ _); k_dflt (first | (refine' leaf_item ?t ?a ?b ?_; (case t => exact News.isTup (by k_asm) (by k_mem)); (case a => assumption); (case b => assumption)) | (refine' node_item ?t ?a ?b ?_; (case t => exact News.isTup (by k_asm) (by k_mem)); (case a => assumption); (case b => assumption))); intro _ _ _) | walk1 | (dsimp only; first | walk1 | (k_unfold; (try dsimp only)))))))
    rename IsRange _ _ _ _ _ _ _ _ => hR
    rename Fr g' _ _ _ => F7
    rename News g' _ _ _ => N7
    obtain ⟨br, tr, ur, vr, hR, hb2, hb0, hb1⟩ : ∃ b t u v, IsRange _ _ 0 b 1 t u v ∧ (b.toNat = 1 ∨ b.toNat = 2) ∧ 0 ≤ b ∧ b ≤ 100000 := ⟨_, _, _, _, hR, frange_nat, frange.1, frange.2⟩
    refine' src_range (Inv := fun i ys nw => ∃ (Ts : List Tm) (exs : List (Addr × Obj)) (o' : Obj) (kk : Int) (t3' : Tok), nw = exs ++ ([(D, tupOf [.str nm tt]), t2, (L' + 1 + 1, oc2), (L' + 1, oc1)] ++ [(ld, o')]) ∧ Ts.length = i ∧ (∀ T ∈ Ts, Gd n T) ∧ TmsIn exs ys Ts ∧ LogIs w o' cl kk t3' ∧ k + 2 ≤ kk ∧ kk ≤ k + 2 + (i * bnd n : Nat) ∧ ∀ x ∈ exs, s.heap.get? x.1 = none) ?hh F7 N7 hR hb0 hb1 ?i0 ?turn ?fin
    (case hh => exact rfl)
    (case i0 => exact ⟨[], [], o5, k + 1 + 1, _, rfl, rfl, (fun _ h => nomatch h), .nil, D5, by omega, by omega, fun _ h => nomatch h⟩)
    (case turn =>
      intro g i ys nw v I oI C5 oC Dl m₂ h tk E' hi2 hI _ hP hC hx F N8 off ne
      obtain ⟨Ts, exs, o', kk, t3', hnw, hlen', hgd, hin, hlog, hk1, hk2, hfr⟩ := hI
      subst hnw
      clear F7 N7 hR
      have N9 : News g' L' h [(I, oI), (C5, oC), (Dl, LCg.lst ys), (L' + 1 + 1, oc2), (L' + 1, oc1), (ld, o')] := fun p hp => N8 p (sub_tail (sub_tail (sub_tail (sub_lr (k := exs) (sub_skip (sub_skip (sub_tail (sub_tail (sub_tail all_nil)))))))) p hp)
      have N8h : ∀ p, p ∈ ((I, oI) :: (C5, oC) :: (Dl, LCg.lst ys) :: (exs ++ ([(D, tupOf [Value.str nm tt]), t2, (L' + 1 + 1, oc2), (L' + 1, oc1)] ++ [(ld, o')]))) → h.get? p.1 = some p.2 ∧ p.1 ≠ L' ∧ g'.get? p.1 = none := N8
      clear N8
      (repeat' (first | (k_unfold; (try dsimp only)) | ((fail_if_success (with_reducible first | refine stop_at [76, 307] (by decide) ?_ | refine stop_st (by decide) ?_ | refine stop_bl (by decide) ?_ | refine stop_lc ?_ | refine stop_jp ?_ | show LCg.CompSrc _ _ _ _ _ _ _ _ _ _ _ _ _ _ | show LCt.CompSrcT _ _ _ _ _ _ _ _ _ _ _ _ _ _ _)); (first | ((with_reducible refine stop_cr ?_); first | (k_here; (with_reducible show wpAny _ _ (call (Value.ref 269) _) _ _ _); k_dflt (refine' hewn_use ?B ?F ?X ?T ?hk ?N ?ho ?U ?hcl ?hi ?hl ?h0 ?h1 ?m0 ?m1 ?d ?u ?_; (case B => k_asm); (case F => k_asm); (case X => k_asm); (case T => k_asm); (case hk => exact rfl); (case N => k_asm); (case ho => assumption); (case U => k_updF); (case hcl => first | (with_reducible assumption) | exact isl_keep (by assumption) (Fr.keep (by k_asm)) | exact News.isList (by k_asm) (by k_mem)); (case hi => assumption); (case hl => assumption); (case h0 => omega); (case h1 => omega); (case m0 => first | decide | omega); (case m1 => first | decide | omega); (case d => first | exact room2 (by assumption) (by exact rfl) | exact room1 (by assumption) (by exact rfl) | omega | (dsimp only [ktrTop]; omega)); (case u => first | exact room2 (by assumption) (by exact rfl) | exact room1 (by assumption) (by exact rfl) | omega | (dsimp only [ktrTop]; omega))); intro _ _ _ _ _ _ _ _ _ _ _; ktr_rel)) | (k_here; (with_reducible show wpAny _ _ (subscriptTail _ _ (Value.ref _) (Value.int _ _)) _ _ _); k_dflt (first | (refine' leaf_item ?t ?a ?b ?_; (case t => exact News.isTup (by k_asm) (by k_mem)); (case a => assumption); (case b => assumption)) | (refine' node_item ?t ?a ?b ?_; (case t => exact News.isTup (by k_asm) (by k_mem)); (case a => assumption); (case b => assumption))); intro _ _ _) | walk1 | (dsimp only; first | walk1 | (k_unfold; (try dsimp only)))))))
      have hld : s.heap.get? ld = some o := (N _ (List.mem_singleton.mpr rfl)).1
      have hne0 : ∀ p ∈ exs ++ [(D, tupOf [Value.str nm tt]), t2, (L' + 1 + 1, oc2), (L' + 1, oc1)], p.1 ≠ ld := fun p hp e => by
        rcases List.mem_append.mp hp with hp | hp
        · have h1 := hfr p hp
          rw [e, hld] at h1
          cases h1
        · exact absurd e (all_cons (P := fun p : Addr × Obj => p.1 ≠ ld) (Nat.ne_of_gt l5.2.2.2) (all_cons ht2 (all_cons (Nat.ne_of_gt (Nat.lt_trans l1 (Nat.lt_trans (Nat.lt_succ_self _) (Nat.lt_succ_self _)))) (all_cons (Nat.ne_of_gt (Nat.lt_trans l1 (Nat.lt_succ_self _))) all_nil))) p hp)
      have hib : i * bnd n ≤ 1 * bnd n := Nat.mul_le_mul_right _ (by omega)
      have kpe : ∀ b, h.get? b = none → s.heap.get? b = none := fun b hb => kp_none (kp_of (S := [ld]) N hg' F N9 (fun p hp np => by
        rw [List.mem_singleton.mp hp] at np
        exact absurd (List.mem_singleton.mpr rfl) np)) (fun a ha => by rw [List.mem_singleton.mp ha]; exact ⟨_, (N9 (ld, o') (by k_dflt k_mem)).1⟩) hb
      have hidx : ((n + 1 : Nat) : Int) - 1 = (n : Nat) := by omega
      rw [hidx]
      k_dflt (refine' IH ⟨?B, ?F, ?X, ?T, ?hk⟩ (ld := ld) (o := o') ?N1 hlog (isl_keep hcl' F.keep) hi hlen (by omega) (by omega) ?d ?u ?_; (case B => k_asm); (case F => k_asm); (case X => k_asm); (case T => k_asm); (case hk => exact rfl); (case N1 => exact (fun p hp => N9 p (by rw [List.mem_singleton.mp hp]; k_dflt k_mem))); (case d => first | exact room2 (by assumption) (by exact rfl) | exact room1 (by assumption) (by exact rfl) | omega | (dsimp only [ktrTop]; omega)); (case u => first | exact room2 (by assumption) (by exact rfl) | exact room1 (by assumption) (by exact rfl) | omega | (dsimp only [ktrTop]; omega)))
      intro T1 v1 ex1 h1 tk1 kk1 t31 o1 hGd1 hk11 hk12 kp1 hl1 hlog1 hex1 hTm1
      have led := led_log F (N8h : News g' L' h _) kp1 hl1 (o' := o') (.tail _ (.tail _ (.tail _ (List.mem_append_right _ (List.mem_append_right _ (.head _)))))) hex1
      try k_unfold
      refine LCg.CompEnd.intro (all := (I, oI) :: (C5, oC) :: (Dl, LCg.lst ys) :: (ex1 ++ ((exs ++ [(D, tupOf [Value.str nm tt]), t2, (L' + 1 + 1, oc2), (L' + 1, oc1)]) ++ [(ld, o1)]))) (kp_fr F kp1 ?_ ?_) ?_ (ex1 ++ ((exs ++ [(D, tupOf [Value.str nm tt]), t2, (L' + 1 + 1, oc2), (L' + 1, oc1)]) ++ [(ld, o1)])) (fun _ h => h) ?_ trivial ?_
      · simpa using Nat.ne_of_gt l1
      · intro a ha
        rw [List.mem_singleton.mp ha]
        exact (N9 (ld, o') (by k_dflt k_mem)).2.2
      · have offl := off.mem (ld, o') (List.mem_append_right _ (List.mem_append_right _ (.head _)))
        intro p hp
        refine led p ?_
        rcases List.mem_cons.mp hp with rfl | hp
        · exact .inr (.inl ⟨by k_dflt k_mem, Ne.symm offl.1⟩)
        rcases List.mem_cons.mp hp with rfl | hp
        · exact .inr (.inl ⟨by k_dflt k_mem, Ne.symm offl.2.1⟩)
        rcases List.mem_cons.mp hp with rfl | hp
        · exact .inr (.inl ⟨by k_dflt k_mem, Ne.symm offl.2.2⟩)
        rcases List.mem_append.mp hp with hp | hp
        · exact .inl hp
        rcases List.mem_append.mp hp with hp | hp
        · refine .inr (.inl ⟨?_, hne0 p hp⟩)
          rcases List.mem_append.mp hp with hp | hp
          · exact .tail _ (.tail _ (.tail _ (List.mem_append_left _ hp)))
          · exact .tail _ (.tail _ (.tail _ (List.mem_append_right _ (List.mem_append_left _ hp))))
        · exact .inr (.inr (List.mem_singleton.mp hp))
      · refine off_log (h := h) (h' := h1) (o' := o') (by rw [List.append_assoc]; exact off) (N9 _ (.head _)).1 (N9 _ (.tail _ (.head _))).1 (N9 _ (.tail _ (.tail _ (.head _)))).1 hex1
      · refine ⟨Ts ++ [T1], ex1 ++ exs, o1, kk1, t31, by simp, by simp [hlen'], ?_, ?_, hlog1, by omega, ?_, ?_⟩
        · intro T hT
          rcases List.mem_append.mp hT with hT | hT
          · exact hgd T hT
          · rw [List.mem_singleton.mp hT]; exact hGd1
        · exact TmsIn.snoc (hTm1.mono fun x h => List.mem_append_left _ h) (hin.mono fun x h => List.mem_append_right _ h)
        · rw [Nat.succ_mul]; omega
        · intro x hx
          rcases List.mem_append.mp hx with hx | hx
          · exact kpe _ (hex1 x hx).2
          · exact hfr x hx)
    (case fin =>
      intro g ys nw hI
      obtain ⟨Ts, exs, o', kk, t3', hnw, hlen', hgd, hin, hlog, hk1, hk2, hfr⟩ := hI
      subst hnw
      clear F7 N7 hR
      unfold LCg.FinE
      intro Dl h tk F N8 _
      have N9 : News g' L' h [(Dl, LCg.lst ys), (D, tupOf [Value.str nm tt]), (L' + 1 + 1, oc2), (L' + 1, oc1), (ld, o')] := fun p hp => N8 p (sub_tail (sub_lr (k := exs) (sub_tail (sub_skip (sub_tail (sub_tail (sub_tail all_nil)))))) p hp)
      have N8h : ∀ p, p ∈ ((Dl, LCg.lst ys) :: (exs ++ ([(D, tupOf [Value.str nm tt]), t2, (L' + 1 + 1, oc2), (L' + 1, oc1)] ++ [(ld, o')]))) → h.get? p.1 = some p.2 ∧ p.1 ≠ L' ∧ g'.get? p.1 = none := N8
      clear N8
      have hyl : ys.length = br.toNat := by rw [hin.length, hlen']
      refine spliced_none ?_
      refine call_tuple_list (N9.isList (.head _)) (fun h8 hk8 => ?_) (by rw [sizeLine_eq, List.size_toArray]; omega)
      have F8 := F.keeps hk8
      have N8 : News g' L' h8 _ := fun p hp => ⟨hk8 _ _ (N8h p hp).1, (N8h p hp).2⟩
      have F10 := F8.push (o := ({ cls := .type "tuple", data := .seq ys.toArray } : Obj))
      have N10 := N8.push F8 ({ cls := .type "tuple", data := .seq ys.toArray } : Obj)
      have hys : ys ≠ [] := fun e => by rw [e] at hyl; simp at hyl; omega
      refine add_tuples (vs := [Value.str nm tt]) (ws := ys) F10 N10 (N10.isTup (.tail _ (.tail _ (List.mem_append_right _ (.head _))))) (N10.isTup (.head _)) (fun e => by cases e) (fun _ e => absurd e hys) (fun _ _ h11 F11 N11 => ?_) (by rw [sizeLine_eq]; simp; omega)
      have hkk : br.toNat * bnd n ≤ 2 * bnd n := Nat.mul_le_mul_right _ (by omega)
      have mem : ∀ p, p ∈ exs ∨ p = (ld, o') → p ∈ (Dl, LCg.lst ys) :: (exs ++ ([(D, tupOf [Value.str nm tt]), t2, (L' + 1 + 1, oc2), (L' + 1, oc1)] ++ [(ld, o')])) := fun p hp => .tail _ (hp.elim (fun h => List.mem_append_left _ h) fun h => List.mem_append_right _ (List.mem_append_right _ (List.mem_singleton.mpr h)))
      have kp11 : Kp [ld] s.heap h11 := kp_of N hg' F11 N11 (fun p hp np => by
        rw [List.mem_singleton.mp hp] at np
        exact absurd (List.mem_singleton.mpr rfl) np)
      have kp10 : Kp [ld] s.heap (h8.push ({ cls := .type "tuple", data := .seq ys.toArray } : Obj)) := kp_of N hg' F10 N10 (fun p hp np => by
        rw [List.mem_singleton.mp hp] at np
        exact absurd (List.mem_singleton.mpr rfl) np)
      have hGd : Gd (n + 1) (.node nm Ts) := by
        rcases hb2 with hb2 | hb2
        · rw [hb2] at hlen'
          match Ts, hlen' with
          | [T1], _ => exact .one hnm (hgd T1 (.head _))
        · rw [hb2] at hlen'
          match Ts, hlen' with
          | [T1, T2], _ => exact .two hnm (hgd T1 (.head _)) (hgd T2 (.tail _ (.head _)))
      refine hQ (.node nm Ts) _ ((_, tupOf (.str nm tt :: ys)) :: exs) _ _ kk t3' o' hGd (by omega) (by omega) kp11 (N11 _ (.tail _ (.tail _ (mem _ (.inr rfl))))).1 hlog (fun x hx => ?_) (.node (.head _) (hin.mono fun x h => .tail _ h))
      rcases List.mem_cons.mp hx with rfl | hx
      · exact ⟨(N11 _ (.head _)).1, kp_none kp10 (fun a ha => by rw [List.mem_singleton.mp ha]; exact ⟨_, (N10 _ (.tail _ (mem _ (.inr rfl)))).1⟩) (Heap.get?_none_of_le (Nat.le_refl _))⟩
      · exact ⟨(N11 _ (.tail _ (.tail _ (mem _ (.inl hx))))).1, hfr x hx⟩))
theorem lterm_all : ∀ n, LTermOk n
  | 0 => lterm_zero
  | n + 1 => lterm_succ n (lterm_all n)
/- StrJ -/
theorem freshStrJ : True := by
  w_top off
  trivial
noncomputable def cat : List PySem.Str → PySem.Str
  | [] => Str.empty
  | x :: r => x ++ cat r
theorem join_cat (ys : List PySem.Str) : Txt.join ("" : PySem.Str) ys = cat ys := by
  have h := join_closes (sep := ("" : PySem.Str)) (sep' := ("" : PySem.Str)) (ys := ys) rfl
  rw [eq_of_beq h]
  clear h
  have e : ("" : PySem.Str) = Str.empty := by decide +kernel
  induction ys with
  | nil => rfl
  | cons x r ih =>
    cases r with
    | nil =>
      show _ = x ++ Str.empty
      rw [Str.append_empty]
      rfl
    | cons y r =>
      rw [join_cons_cons, ih, e, Str.append_empty]
      rfl
/- Writ -/
theorem freshWrit : True := by
  w_top off
  trivial
noncomputable def gaps : List PySem.Str := [" ", "  ", "\n"]
noncomputable def pads : List PySem.Str := ["", " "]
mutual
/-- what may be written of a term -/
inductive Wr : Tm → PySem.Str → Prop
  | leaf {o g : PySem.Str} : g ∈ gaps → Wr (.node o []) (g ++ o)
  | node {o g p : PySem.Str} {S : List PySem.Str} {k : Tm} {ks : List Tm} : g ∈ gaps → p ∈ pads → WrL (k :: ks) S → Wr (.node o (k :: ks)) (g ++ ("(" : PySem.Str) ++ p ++ o ++ cat S ++ (")" : PySem.Str))
inductive WrL : List Tm → List PySem.Str → Prop
  | nil : WrL [] []
  | cons {k : Tm} {ks : List Tm} {s : PySem.Str} {S : List PySem.Str} : Wr k s → WrL ks S → WrL (k :: ks) (s :: S)
end
noncomputable def lenB : Nat → Nat
  | 0 => 8
  | n + 1 => 8 + 2 * lenB n
noncomputable def LWritOk (n : Nat) : Prop := ∀ {w : World} {A₀ : Around} {s : Shared} {base h₀ : Heap} {outer : List Env} {L a : Addr} {m : PySem.Str → Option Value} {mean : ExcName → Option Value} {mg mb : PySem.Str → Option Value} {Q : Value → Shared → Prop} {E : Value → Shared → Prop} {dp un : Nat} {gd : Option (List Code)} {cn : PySem.Str} {cs : Scope} {ccd : Value} {cll : List (PySem.Str × Addr)}
    {ld cl : Addr} {k : Int} {t3 : Tok} {o : Obj} {vs : List Value} {ns : List Int} {T : Tm} {v : Value} {ex : List (Addr × Obj)},
    Gd n T → TmIn ex v T → (∀ x ∈ ex, s.heap.get? x.1 = some x.2) → (∀ x ∈ ex, x.1 ≠ ld) →
    Cx w s.heap A₀ base h₀ cs outer L m mean mg mb → News h₀ L s.heap [(ld, o)] → LogIs w o cl k t3 → s.heap.IsList cl vs.toArray → IntsAre vs ns → ns.length ≤ 50 → 0 ≤ k → k + bnd n ≤ 10000 → lenB n ≤ 10000 → dp + 20 + 10 * n < recursionLimit → un + 100 + 20 * n < cLine →
    (∀ S tS h' tk' k' t3' o', Wr T S → S.length ≤ lenB n → k ≤ k' → k' ≤ k + bnd n → Kp [ld] s.heap h' → h'.get? ld = some o' → LogIs w o' cl k' t3' → Q (.str S tS) { s with heap := h', toks := tk' }) →
    wpAny (model Challenge.rw_rg0116_01.row.prog w) (ktrTop dp un gd cn cs L a ccd cll outer) (call (.ref 312) [.ref ld, v]) Q E s
theorem gap_len {g : PySem.Str} (h : g ∈ gaps) : g.length ≤ 2 := by
  simp only [gaps, List.mem_cons, List.not_mem_nil, or_false] at h
  rcases h with rfl | rfl | rfl
  all_goals exact Nat.le_of_ble_eq_true (by decide +kernel)
theorem pad_len {g : PySem.Str} (h : g ∈ pads) : g.length ≤ 1 := by
  simp only [pads, List.mem_cons, List.not_mem_nil, or_false] at h
  rcases h with rfl | rfl
  all_goals exact Nat.le_of_ble_eq_true (by decide +kernel)
theorem leaf_len {g : PySem.Str} (h : g ∈ leafNames) : g.length ≤ 3 := by
  simp only [leafNames, List.mem_cons, List.not_mem_nil, or_false] at h
  rcases h with rfl | rfl | rfl | rfl
  all_goals exact Nat.le_of_ble_eq_true (by decide +kernel)
theorem node_len {g : PySem.Str} (h : g ∈ nodeNames) : g.length ≤ 3 := by
  simp only [nodeNames, List.mem_cons, List.not_mem_nil, or_false] at h
  rcases h with rfl | rfl
  all_goals exact Nat.le_of_ble_eq_true (by decide +kernel)
theorem par_len1 : ("(" : PySem.Str).length = 1 := by decide +kernel
theorem par_len2 : (")" : PySem.Str).length = 1 := by decide +kernel
section
variable {prog : Program} {w : World} {A : Around} {E : Value → Shared → Prop} {s : Shared}
theorem gap_item {value slice : PySem.Expr} {l : Addr} {r : Int} {u a b c : Tok} {Q : Value → Shared → Prop} (hT : IsTup s.heap l #[.str " " a, .str "  " b, .str "\n" c]) (h0 : 0 ≤ r) (h1 : r < 3) (h : ∀ g t, g ∈ gaps → g.length ≤ 2 → Q (.str g t) s)
    (hs : subscripted slice false (.ref l) (.int r u) = operate [.ref l, .int r u] (getItem (.ref l) (.int r u)) := by with_unfolding_all rfl) :
    wpAny (model prog w) A (subscriptTail value slice (.ref l) (.int r u)) Q E s := by
  have h4 : r = 0 ∨ r = 1 ∨ r = 2 := by omega
  have hT' : IsTup s.heap l [Value.str " " a, .str "  " b, .str "\n" c].toArray := hT
  rcases h4 with rfl | rfl | rfl
  · exact item_tupleT hT' (by decide) (by decide) rfl rfl (h _ _ (.head _) (gap_len (.head _))) hs
  · exact item_tupleT hT' (by decide) (by decide) rfl rfl (h _ _ (.tail _ (.head _)) (gap_len (.tail _ (.head _)))) hs
  · exact item_tupleT hT' (by decide) (by decide) rfl rfl (h _ _ (.tail _ (.tail _ (.head _))) (gap_len (.tail _ (.tail _ (.head _))))) hs
theorem pad_mul {r : Int} {t u : Tok} {Q : Value → Shared → Prop} (h0 : 0 ≤ r) (h1 : r < 2) (h : ∀ p t k, p ∈ pads → p.length ≤ 1 → Q (.str p t) { s with toks := k }) : wpAny (model prog w) A (binaryOp .Mult (.str " " t) (.int r u)) Q E s := by
  refine SB.mul (mulOk_of 16 1048576 (Nat.le_of_ble_eq_true (by decide +kernel)) (by omega) (by omega) (by decide) (by decide)) (fun t' k => ?_)
  have h4 : r = 0 ∨ r = 1 := by omega
  rcases h4 with rfl | rfl
  · have e : Txt.mul (" " : PySem.Str) 0 = ("" : PySem.Str) := by decide +kernel
    rw [e]
    exact h _ _ _ (.head _) (pad_len (.head _))
  · have e : Txt.mul (" " : PySem.Str) 1 = (" " : PySem.Str) := by decide +kernel
    rw [e]
    exact h _ _ _ (.tail _ (.head _)) (pad_len (.tail _ (.head _)))
theorem add_len {x y : PySem.Str} {t u : Tok} {Q : Value → Shared → Prop} (hx : x.length ≤ 100000) (hy : y.length ≤ 100000) (h : ∀ t' k, (x ++ y).length = x.length + y.length → Q (.str (x ++ y) t') { s with toks := k }) : wpAny (model prog w) A (binaryOp .Add (.str x t) (.str y u)) Q E s :=
  SB.add (fun t' k => h t' k (Str.length_append x y)) (by rw [sizeLine_eq]; omega)
end
local macro_rules | `(tactic| walk_at "binaryOp Mult str int") => `(tactic| (k_here; (refine pad_mul (by assumption) (by assumption) ?_); intro p' t' k' hp9 hl9))
theorem tms_one {ex : List (Addr × Obj)} {vs : List Value} {T : Tm} (h : TmsIn ex vs [T]) : ∃ v, vs = [v] ∧ TmIn ex v T := by
  cases h with
  | cons h1 h2 =>
    cases h2
    exact ⟨_, rfl, h1⟩
theorem tms_two {ex : List (Addr × Obj)} {vs : List Value} {T T' : Tm} (h : TmsIn ex vs [T, T']) : ∃ v v', vs = [v, v'] ∧ TmIn ex v T ∧ TmIn ex v' T' := by
  cases h with
  | cons h1 h2 =>
    obtain ⟨v', rfl, h3⟩ := tms_one h2
    exact ⟨_, _, rfl, h1, h3⟩
section
variable {prog : Program} {w : World} {A : Around} {E : Value → Shared → Prop} {s : Shared} {h₀ : Heap} {L : Addr} {m : PySem.Str → Option Value} {news : List (Addr × Obj)}
theorem slice_from' {value slice : PySem.Expr} {t : Addr} {items : Array Value} {zs : List Value} {u : Tok} {Q : Value → Shared → Prop}
    (F : Fr h₀ L s.heap m) (N : News h₀ L s.heap news) (ht : IsTup s.heap t items) (ha : 1 ≤ items.size) (hz : items.toList.drop 1 = zs)
    (h : ∀ D h', Fr h₀ L h' m → News h₀ L h' ((D, tupOf zs) :: news) → (∀ p ∈ news, p.1 ≠ D) → Q (.ref D) { s with heap := h' })
    (hs : subscripted slice false (.ref t) (.ref s.heap.objs.size) = operate [.ref s.heap.objs.size, .ref t] (getItem (.ref t) (.ref s.heap.objs.size)))
    (hg : ∀ r, letTemporaryGo value (.ref t) r = pure ()) (hsz : items.size ≤ sizeLine) :
    wpAny (model prog w) A (subscriptTail value slice (.ref t) (.ref s.heap.objs.size)) Q E { s with heap := s.heap.push { cls := .type "slice", data := .fields #[.int (1 : Nat) u, .none, .none] } } := by
  subst hz
  exact slice_tuple_from (a := 1) F N ht (Nat.le_refl _) ha (fun h' F' N' => h _ h' F' N' (fun p hp => Nat.ne_of_lt (Nat.lt_succ_of_lt (Heap.lt_size (N p hp).1)))) hs hg hsz
end
theorem wrl_snoc {T : Tm} {s : PySem.Str} : ∀ {ks : List Tm} {i : Nat} {S : List PySem.Str}, WrL (ks.take i) S → ks[i]? = some T → Wr T s → WrL (ks.take (i + 1)) (S ++ [s])
  | [], i, S, _, h, _ => by simp at h
  | k :: ks, 0, S, hw, h, hs => by
    simp at h hw
    subst h
    cases hw
    simpa using WrL.cons hs .nil
  | k :: ks, i + 1, S, hw, h, hs => by
    rw [List.take_succ_cons] at hw ⊢
    cases hw with
    | cons h1 h2 => exact .cons h1 (wrl_snoc h2 (by simpa using h) hs)
theorem cat_len {B : Nat} : ∀ {S : List PySem.Str}, (∀ x ∈ S, x.length ≤ B) → (cat S).length ≤ S.length * B
  | [], _ => Nat.zero_le _
  | x :: r, h => by
    have h1 := cat_len (S := r) fun y hy => h y (.tail _ hy)
    have h2 := h x (.head _)
    show (x ++ cat r).length ≤ _
    rw [Str.length_append, List.length_cons, Nat.succ_mul]
    omega
theorem cat_sum : ∀ S : List PySem.Str, (cat S).length = (S.map (·.length)).sum
  | [] => rfl
  | x :: r => by
    show (x ++ cat r).length = _
    rw [Str.length_append, cat_sum r]
    rfl
theorem nil_len : ("" : PySem.Str).length = 0 := by decide +kernel
theorem kid_at {n : Nat} {ex : List (Addr × Obj)} {v : Value} : ∀ {vs : List Value} {ks : List Tm} {i : Nat}, TmsIn ex vs ks → (∀ T ∈ ks, Gd n T) → vs.toArray[i]? = some v → ∃ T, ks[i]? = some T ∧ TmIn ex v T ∧ Gd n T
  | _, _, i, .nil, _, h => by simp at h
  | _, _, 0, .cons h1 h2, hg, h => by
    simp at h
    subst h
    exact ⟨_, rfl, h1, hg _ (.head _)⟩
  | _, _, i + 1, .cons h1 h2, hg, h => by
    obtain ⟨T, a, b, c⟩ := kid_at (i := i) h2 (fun T hT => hg T (.tail _ hT)) (by simpa using h)
    exact ⟨T, by simpa using a, b, c⟩
theorem gd_cases {n : Nat} {o : PySem.Str} {ks : List Tm} (h : Gd n (.node o ks)) : (ks = [] ∧ o ∈ leafNames) ∨ ∃ n', n = n' + 1 ∧ o ∈ nodeNames ∧ (∀ T ∈ ks, Gd n' T) ∧ 1 ≤ ks.length ∧ ks.length ≤ 2 := by
  cases h with
  | leaf h => exact .inl ⟨rfl, h⟩
  | one ho h => exact .inr ⟨_, rfl, ho, fun T ht => by rw [List.mem_singleton.mp ht]; exact h, Nat.le_refl _, Nat.le_succ _⟩
  | two ho h h' => exact .inr ⟨_, rfl, ho, fun T ht => by
      rcases List.mem_cons.mp ht with rfl | ht
      · exact h
      · rw [List.mem_singleton.mp ht]; exact h', Nat.le_succ _, Nat.le_refl _⟩
set_option maxHeartbeats 8000000 in
theorem lwrit_step (n : Nat) (IH : ∀ n', n = n' + 1 → LWritOk n') : LWritOk n := by
  intro w A₀ s base h₀ outer L a m mean mg mb Q E dp un gd cn cs ccd cll ld cl k t3 o vs ns T v ex hG hTm hex hexl C N ho hcl hi hlen h0 hk hlb hd hu hQ
  cases hTm with
  | @node q nm tt kv ks hm hks =>
  have hd9 : dp + 20 < recursionLimit := by omega
  have hu9 : un + 100 < cLine := by omega
  have pl1 := par_len1
  have pl2 := par_len2
  refine wpAny_call ?_
  with_unfolding_all refine' enterC (binds := [("log", .ref ld), ("t", .ref q)]) ?kC ?kN ?k6 ?k7 ?k8 ?k9 ?kB ?kD ?_ ?c2 ?c3 ?c4 ?eb ?es
  k_dflt ((case kC => assumption); (case kN => assumption); (case k6 => k_is); (case eb => (conv => lhs; whnf)); (case es => (conv => lhs; whnf)); (case k7 => k_is); (case k8 => first | exact room0 (by assumption) | omega); (case k9 => exact BindsTo.of_eq rfl); (case kB => exact rfl); (case kD => decide +kernel); (case c2 => exact rfl); (case c3 => exact rfl); (case c4 => exact rfl))
  intro g' L' h' tk' cells' hg' hs' F' N' Y' B' X' T' l1 hcn
  k_lt l1
  obtain ⟨oc1, hE', d1'⟩ := CellsAre.one Y'
  subst hE'
  clear Y'
  dsimp only [List.cons_append, List.nil_append] at N'
  dsimp only
  have hcl' : g'.IsList cl vs.toArray := by
    obtain ⟨o1, ho1, r⟩ := hcl
    exact ⟨o1, hg' _ _ (by simpa using cl_ne N ho ⟨o1, ho1, r⟩) ho1, r⟩
  have hq : g'.get? q = some (tupOf (.str nm tt :: kv)) := hg' _ _ (by simpa using hexl _ hm) (hex _ hm)
  rcases gd_cases hG with ⟨rfl, hnm⟩ | ⟨n', rfl, hnm, hgd0, hm1, hm2⟩
  · cases hks
    have hqt : IsTup g' q #[Value.str nm tt] := ⟨_, hq, rfl, _, rfl⟩
    have hsz : ((#[Value.str nm tt].size : Nat) : Int) = 1 := rfl
    have hnl := leaf_len hnm
    have hb : 1 ≤ bnd n := by cases n <;> simp [bnd] <;> omega
    have hbl : 8 ≤ lenB n := by cases n <;> simp [lenB] <;> omega
    (repeat' (first | (k_unfold; (try dsimp only)) | ((fail_if_success (with_reducible first | refine stop_at [76, 312] (by decide) ?_ | refine stop_st (by decide) ?_ | refine stop_bl (by decide) ?_ | refine stop_lc ?_ | refine stop_jp ?_ | show LCg.CompSrc _ _ _ _ _ _ _ _ _ _ _ _ _ _ | show LCt.CompSrcT _ _ _ _ _ _ _ _ _ _ _ _ _ _ _)); (first | ((with_reducible refine stop_cr ?_); first | (k_here; (with_reducible show wpAny _ _ (call (Value.ref 269) _) _ _ _); k_dflt (refine' hewn_use ?B ?F ?X ?T ?hk ?N ?ho ?U ?hcl ?hi ?hl ?h0 ?h1 ?m0 ?m1 ?d ?u ?_; (case B => k_asm); (case F => k_asm); (case X => k_asm); (case T => k_asm); (case hk => exact rfl); (case N => k_asm); (case ho => assumption); (case U => k_updF); (case hcl => first | (with_reducible assumption) | exact isl_keep (by assumption) (Fr.keep (by k_asm)) | exact News.isList (by k_asm) (by k_mem)); (case hi => assumption); (case hl => assumption); (case h0 => omega); (case h1 => omega); (case m0 => first | decide | omega); (case m1 => first | decide | omega); (case d => first | exact room2 (by assumption) (by exact rfl) | exact room1 (by assumption) (by exact rfl) | omega | (dsimp only [ktrTop]; omega)); (case u => first | exact room2 (by assumption) (by exact rfl) | exact room1 (by assumption) (by exact rfl) | omega | (dsimp only [ktrTop]; omega))); intro _ _ _ _ _ _ _ _ _ _ _; ktr_rel)) | (k_here; (with_reducible show wpAny _ _ (binaryOp Operator.Add (Value.str _ _) (Value.str _ _)) _ _ _); (refine add_len ?ka ?kb ?_; (case ka => omega); (case kb => omega)); intro _ _ _) | (k_here; (with_reducible show wpAny _ _ (subscriptTail _ _ (Value.ref _) (Value.int _ _)) _ _ _); k_dflt (refine' gap_item ?t ?a ?b ?_; (case t => exact News.isTup (by k_asm) (by k_mem)); (case a => assumption); (case b => assumption)); intro _ _ _ _) | walk1 | (dsimp only; first | walk1 | (k_unfold; (try dsimp only)))))))
    · dsimp only
      rename Fr g' _ _ _ => F9
      rename News g' _ _ _ => N9
      rename LogIs w _ cl (k + 1) _ => D9
      rename _ ∈ gaps => hg9
      exact hQ _ _ _ _ (k + 1) _ _ (.leaf hg9) (by omega) (by omega) (by omega) (kp_of N hg' F9 N9 (fun p hp np => by
        rw [List.mem_singleton.mp hp] at np
        exact absurd (List.mem_singleton.mpr rfl) np)) (N9 (ld, _) (by k_dflt k_mem)).1 D9
    · exact absurd hsz (by assumption)
  · have hkl := hks.length
    have hqt : IsTup g' q (Value.str nm tt :: kv).toArray := ⟨_, hq, rfl, _, rfl⟩
    have hsz : (((Value.str nm tt :: kv).toArray.size : Nat) : Int) = kv.length + 1 := by rw [List.size_toArray]; rfl
    have hnl := node_len hnm
    have hb : bnd (n' + 1) = 2 + 2 * bnd n' := rfl
    have hbl : lenB (n' + 1) = 8 + 2 * lenB n' := rfl
    rw [hb] at hk
    rw [hbl] at hlb
    have hdrop : (Value.str nm tt :: kv).toArray.toList.drop 1 = kv := rfl
    have hbm : kv.length * bnd n' ≤ 2 * bnd n' := Nat.mul_le_mul_right _ (by omega)
    have hlm : kv.length * lenB n' ≤ 2 * lenB n' := Nat.mul_le_mul_right _ (by omega)
    (repeat' (first | (k_unfold; (try dsimp only)) | ((fail_if_success (with_reducible first | refine stop_at [76, 312] (by decide) ?_ | refine stop_st (by decide) ?_ | refine stop_bl (by decide) ?_ | refine stop_lc ?_ | refine stop_jp ?_ | show LCg.CompSrc _ _ _ _ _ _ _ _ _ _ _ _ _ _ | show LCt.CompSrcT _ _ _ _ _ _ _ _ _ _ _ _ _ _ _)); (first | ((with_reducible refine stop_cr ?_); first | (k_here; (with_reducible show wpAny _ _ (call (Value.ref 269) _) _ _ _); k_dflt (refine' hewn_use ?B ?F ?X ?T ?hk ?N ?ho ?U ?hcl ?hi ?hl ?h0 ?h1 ?m0 ?m1 ?d ?u ?_; (case B => k_asm); (case F => k_asm); (case X => k_asm); (case T => k_asm); (case hk => exact rfl); (case N => k_asm); (case ho => assumption); (case U => k_updF); (case hcl => first | (with_reducible assumption) | exact isl_keep (by assumption) (Fr.keep (by k_asm)) | exact News.isList (by k_asm) (by k_mem)); (case hi => assumption); (case hl => assumption); (case h0 => omega); (case h1 => omega); (case m0 => first | decide | omega); (case m1 => first | decide | omega); (case d => first | exact room2 (by assumption) (by exact rfl) | exact room1 (by assumption) (by exact rfl) | omega | (dsimp only [ktrTop]; omega)); (case u => first | exact room2 (by assumption) (by exact rfl) | exact room1 (by assumption) (by exact rfl) | omega | (dsimp only [ktrTop]; omega))); intro _ _ _ _ _ _ _ _ _ _ _; ktr_rel)) | (k_here; (with_reducible show wpAny _ _ (binaryOp Operator.Add (Value.str _ _) (Value.str _ _)) _ _ _); (refine add_len ?ka ?kb ?_; (case ka => omega); (case kb => omega)); intro _ _ _) | (k_here; (with_reducible show wpAny _ _ (subscriptTail _ _ (Value.ref _) (Value.int _ _)) _ _ _); k_dflt (refine' gap_item ?t ?a ?b ?_; (case t => exact News.isTup (by k_asm) (by k_mem)); (case a => assumption); (case b => assumption)); intro _ _ _ _) | walk1 | (dsimp only; first | walk1 | (k_unfold; (try dsimp only)))))))
    · exact absurd (hsz.symm.trans (by assumption)) (by omega)
    rename Fr g' _ _ _ => F4
    refine item_tupleT (j := 0) (l := Value.str nm tt :: kv) (hqt.keeps F4.keep) (by decide) (by decide) (by unfold seqIndex?; simp) rfl ?_ (by with_unfolding_all rfl)
    (repeat' (first | (k_unfold; (try dsimp only)) | ((fail_if_success (with_reducible first | refine stop_at [76, 312] (by decide) ?_ | refine stop_st (by decide) ?_ | refine stop_bl (by decide) ?_ | refine stop_lc ?_ | refine stop_jp ?_ | show LCg.CompSrc _ _ _ _ _ _ _ _ _ _ _ _ _ _ | show LCt.CompSrcT _ _ _ _ _ _ _ _ _ _ _ _ _ _ _)); (first | ((with_reducible refine stop_cr ?_); first | (k_here; (with_reducible show wpAny _ _ (call (Value.ref 269) _) _ _ _); k_dflt (refine' hewn_use ?B ?F ?X ?T ?hk ?N ?ho ?U ?hcl ?hi ?hl ?h0 ?h1 ?m0 ?m1 ?d ?u ?_; (case B => k_asm); (case F => k_asm); (case X => k_asm); (case T => k_asm); (case hk => exact rfl); (case N => k_asm); (case ho => assumption); (case U => k_updF); (case hcl => first | (with_reducible assumption) | exact isl_keep (by assumption) (Fr.keep (by k_asm)) | exact News.isList (by k_asm) (by k_mem)); (case hi => assumption); (case hl => assumption); (case h0 => omega); (case h1 => omega); (case m0 => first | decide | omega); (case m1 => first | decide | omega); (case d => first | exact room2 (by assumption) (by exact rfl) | exact room1 (by assumption) (by exact rfl) | omega | (dsimp only [ktrTop]; omega)); (case u => first | exact room2 (by assumption) (by exact rfl) | exact room1 (by assumption) (by exact rfl) | omega | (dsimp only [ktrTop]; omega))); intro _ _ _ _ _ _ _ _ _ _ _; ktr_rel)) | (k_here; (with_reducible show wpAny _ _ (binaryOp Operator.Add (Value.str _ _) (Value.str _ _)) _ _ _); (refine add_len ?ka ?kb ?_; (case ka => omega); (case kb => omega)); intro _ _ _) | (k_here; (with_reducible show wpAny _ _ (subscriptTail _ _ (Value.ref _) (Value.int _ _)) _ _ _); k_dflt (refine' gap_item ?t ?a ?b ?_; (case t => exact News.isTup (by k_asm) (by k_mem)); (case a => assumption); (case b => assumption)); intro _ _ _ _) | walk1 | (dsimp only; first | walk1 | (k_unfold; (try dsimp only)))))))
    rename Fr g' _ _ _ => F5
    rename News g' _ _ _ => N5
    rename LogIs w _ cl (k + 1 + 1) _ => D5
    rename _ ∈ gaps => hgp
    rename _ ∈ pads => hpd
    rename_i o5 hr0 hr1 pd td kd hpl ta ka hla tb kb hlb
    refine ListComp_Tp (F₀ := F5) (by with_unfolding_all rfl) (by decide) (by rfl) (by decide) (by rfl) ?_
    (repeat' (first | (k_unfold; (try dsimp only)) | ((fail_if_success (with_reducible first | refine stop_at [76, 312] (by decide) ?_ | refine stop_st (by decide) ?_ | refine stop_bl (by decide) ?_ | refine stop_lc ?_ | refine stop_jp ?_ | show LCg.CompSrc _ _ _ _ _ _ _ _ _ _ _ _ _ _ | show LCt.CompSrcT _ _ _ _ _ _ _ _ _ _ _ _ _ _ _)); (first | ((with_reducible refine stop_cr ?_); first | (k_here; (with_reducible show wpAny _ _ (call (Value.ref 269) _) _ _ _); k_dflt (refine' hewn_use ?B ?F ?X ?T ?hk ?N ?ho ?U ?hcl ?hi ?hl ?h0 ?h1 ?m0 ?m1 ?d ?u ?_; (case B => k_asm); (case F => k_asm); (case X => k_asm); (case T => k_asm); (case hk => exact rfl); (case N => k_asm); (case ho => assumption); (case U => k_updF); (case hcl => first | (with_reducible assumption) | exact isl_keep (by assumption) (Fr.keep (by k_asm)) | exact News.isList (by k_asm) (by k_mem)); (case hi => assumption); (case hl => assumption); (case h0 => omega); (case h1 => omega); (case m0 => first | decide | omega); (case m1 => first | decide | omega); (case d => first | exact room2 (by assumption) (by exact rfl) | exact room1 (by assumption) (by exact rfl) | omega | (dsimp only [ktrTop]; omega)); (case u => first | exact room2 (by assumption) (by exact rfl) | exact room1 (by assumption) (by exact rfl) | omega | (dsimp only [ktrTop]; omega))); intro _ _ _ _ _ _ _ _ _ _ _; ktr_rel)) | (k_here; (with_reducible show wpAny _ _ (binaryOp Operator.Add (Value.str _ _) (Value.str _ _)) _ _ _); (refine add_len ?ka ?kb ?_; (case ka => omega); (case kb => omega)); intro _ _ _) | (k_here; (with_reducible show wpAny _ _ (subscriptTail _ _ (Value.ref _) (Value.int _ _)) _ _ _); k_dflt (refine' gap_item ?t ?a ?b ?_; (case t => exact News.isTup (by k_asm) (by k_mem)); (case a => assumption); (case b => assumption)); intro _ _ _ _) | walk1 | (dsimp only; first | walk1 | (k_unfold; (try dsimp only)))))))
    obtain ⟨x1, hx1, N6⟩ : ∃ (x1 : Addr × Obj), x1.1 ≠ ld ∧ News g' L' _ [x1, (L' + 1, oc1), (ld, o5)] := ⟨_, by (refine Nat.ne_of_gt ?_; dsimp only; omega), N5⟩
    refine slice_from' F5 N6 (hqt.keeps F5.keep) (by rw [List.size_toArray]; exact Nat.succ_le_succ (Nat.zero_le _)) hdrop (fun X7 h7 F7 N7 l7 => ?_) (by with_unfolding_all rfl) (by intro _; with_unfolding_all rfl) (by rw [sizeLine_eq, List.size_toArray]; show kv.length + 1 ≤ _; omega)
    have hx7 : X7 ≠ ld := Ne.symm (l7 (ld, o5) (by k_dflt k_mem))
    refine ⟨X7, kv.toArray, _, rfl, rfl, F7, N7, ⟨_, .head _, rfl, _, rfl⟩, by rw [sizeLine_eq, List.size_toArray]; omega, fun g => rest_U (Inv := fun i ys nw => ∃ (S : List PySem.Str) (o' : Obj) (kk : Int) (t3' : Tok), nw = [(X7, tupOf kv), x1, (L' + 1, oc1), (ld, o')] ∧ S.length = i ∧ WrL (ks.take i) S ∧ StrsAre ys S ∧ (∀ x ∈ S, x.length ≤ lenB n') ∧ LogIs w o' cl kk t3' ∧ k + 2 ≤ kk ∧ kk ≤ k + 2 + (i * bnd n' : Nat)) ?turn ?fin _ 0 [] _ (Nat.zero_add _) ⟨_, .head _, rfl, _, rfl⟩ ⟨[], o5, k + 1 + 1, _, rfl, rfl, .nil, .nil, (fun _ h => nomatch h), D5, by omega, by omega⟩⟩
    case turn =>
      intro i ys nw v I oI C5 oC Dl m₂ h tk E' hi2 hI hS hP hC hx F N8 off ne
      obtain ⟨S, o', kk, t3', hnw, hSl, hWr, hys, hSb, hlog, hk1, hk2⟩ := hI
      subst hnw
      obtain ⟨Ti, hTi, hTm, hGi⟩ := kid_at hks hgd0 hP
      have hi3 : i < kv.length := by simpa using hi2
      (repeat' (first | (k_unfold; (try dsimp only)) | ((fail_if_success (with_reducible first | refine stop_at [76, 312] (by decide) ?_ | refine stop_st (by decide) ?_ | refine stop_bl (by decide) ?_ | refine stop_lc ?_ | refine stop_jp ?_ | show LCg.CompSrc _ _ _ _ _ _ _ _ _ _ _ _ _ _ | show LCt.CompSrcT _ _ _ _ _ _ _ _ _ _ _ _ _ _ _)); (first | ((with_reducible refine stop_cr ?_); first | (k_here; (with_reducible show wpAny _ _ (call (Value.ref 269) _) _ _ _); k_dflt (refine' hewn_use ?B ?F ?X ?T ?hk ?N ?ho ?U ?hcl ?hi ?hl ?h0 ?h1 ?m0 ?m1 ?d ?u ?_; (case B => k_asm); (case F => k_asm); (case X => k_asm); (case T => k_asm); (case hk => exact rfl); (case N => k_asm); (case ho => assumption); (case U => k_updF); (case hcl => first | (with_reducible assumption) | exact isl_keep (by assumption) (Fr.keep (by k_asm)) | exact News.isList (by k_asm) (by k_mem)); (case hi => assumption); (case hl => assumption); (case h0 => omega); (case h1 => omega); (case m0 => first | decide | omega); (case m1 => first | decide | omega); (case d => first | exact room2 (by assumption) (by exact rfl) | exact room1 (by assumption) (by exact rfl) | omega | (dsimp only [ktrTop]; omega)); (case u => first | exact room2 (by assumption) (by exact rfl) | exact room1 (by assumption) (by exact rfl) | omega | (dsimp only [ktrTop]; omega))); intro _ _ _ _ _ _ _ _ _ _ _; ktr_rel)) | (k_here; (with_reducible show wpAny _ _ (binaryOp Operator.Add (Value.str _ _) (Value.str _ _)) _ _ _); (refine add_len ?ka ?kb ?_; (case ka => omega); (case kb => omega)); intro _ _ _) | (k_here; (with_reducible show wpAny _ _ (subscriptTail _ _ (Value.ref _) (Value.int _ _)) _ _ _); k_dflt (refine' gap_item ?t ?a ?b ?_; (case t => exact News.isTup (by k_asm) (by k_mem)); (case a => assumption); (case b => assumption)); intro _ _ _ _) | walk1 | (dsimp only; first | walk1 | (k_unfold; (try dsimp only)))))))
      have hib : i * bnd n' ≤ 1 * bnd n' := Nat.mul_le_mul_right _ (by omega)
      k_dflt (refine' IH n' rfl (ld := ld) (o := o') hGi hTm (fun x hx => F.keep _ _ (hg' _ _ (by simpa using hexl x hx) (hex x hx))) hexl ⟨?B, ?F, ?X, ?T, ?hk⟩ ?N1 hlog (isl_keep hcl' F.keep) hi hlen (by omega) (by omega) (by omega) ?d ?u ?_; (case B => k_asm); (case F => k_asm); (case X => k_asm); (case T => k_asm); (case hk => exact rfl); (case N1 => exact (fun p hp => N8 p (by rw [List.mem_singleton.mp hp]; k_dflt k_mem))); (case d => first | exact room2 (by assumption) (by exact rfl) | exact room1 (by assumption) (by exact rfl) | omega | (dsimp only [ktrTop]; omega)); (case u => first | exact room2 (by assumption) (by exact rfl) | exact room1 (by assumption) (by exact rfl) | omega | (dsimp only [ktrTop]; omega)))
      intro S1 tS1 h1 tk1 kk1 t31 o1 hWr1 hl1 hk11 hk12 kp1 hld1 hlog1
      have led := led_log (ex := []) F N8 kp1 hld1 (o' := o') (by k_dflt k_mem) (fun _ h => nomatch h)
      have offl := off.mem (ld, o') (by k_dflt k_mem)
      try k_unfold
      refine LCg.CompEnd.intro (all := (I, oI) :: (C5, oC) :: (Dl, LCg.lst ys) :: [(X7, tupOf kv), x1, (L' + 1, oc1), (ld, o1)]) (kp_fr F kp1 (by simpa using Nat.ne_of_gt l1) (fun a ha => by
        rw [List.mem_singleton.mp ha]
        exact (N8 (ld, o') (by k_dflt k_mem)).2.2)) (fun p hp => led p ?_) [(X7, tupOf kv), x1, (L' + 1, oc1), (ld, o1)] (fun _ h => h) off ⟨_, .head _, rfl, _, rfl⟩ ⟨S ++ [S1], o1, kk1, t31, rfl, by simp [hSl], wrl_snoc hWr hTi hWr1, StrsAre.append' hys (.cons _ _ .nil), ?_, hlog1, by omega, by rw [Nat.succ_mul]; omega⟩
      · revert p
        refine all_cons (.inr (.inl ⟨by k_dflt k_mem, Ne.symm offl.1⟩)) (all_cons (.inr (.inl ⟨by k_dflt k_mem, Ne.symm offl.2.1⟩)) (all_cons (.inr (.inl ⟨by k_dflt k_mem, Ne.symm offl.2.2⟩)) (all_cons (.inr (.inl ⟨by k_dflt k_mem, hx7⟩)) (all_cons (.inr (.inl ⟨by k_dflt k_mem, hx1⟩)) (all_cons (.inr (.inl ⟨by k_dflt k_mem, Nat.ne_of_gt (Nat.lt_trans l1 (Nat.lt_succ_self _))⟩)) (all_cons (.inr (.inr rfl)) all_nil))))))
      · intro x hx
        rcases List.mem_append.mp hx with hx | hx
        · exact hSb x hx
        · rw [List.mem_singleton.mp hx]; exact hl1
    case fin =>
      intro ys nw hI
      obtain ⟨S, o', kk, t3', hnw, hSl, hWr, hys, hSb, hlog, hk1, hk2⟩ := hI
      subst hnw
      have hSl' : S.length = kv.length := by simpa using hSl
      have hWr' : WrL ks S := by
        have e : ks.take kv.toArray.size = ks := by rw [List.size_toArray, hkl, List.take_length]
        rwa [e] at hWr
      obtain ⟨k0, ks0, rfl⟩ : ∃ k0 ks0, ks = k0 :: ks0 := List.exists_cons_of_length_pos (by omega)
      have hcl2 := cat_len hSb
      have hcs := cat_sum S
      rw [hSl'] at hcl2
      unfold LCg.FinE
      intro Dl h tk F N8 _
      refine spliced_none ?_
      refine join_list (N8.isList (.head _)) hys (by rw [← hcs, hSl', nil_len]; omega) (fun tj kj => ?_)
      rw [join_cat]
      have hk2' : kk ≤ k + 2 + (kv.length * bnd n' : Nat) := by simpa using hk2
      (repeat' (first | (k_unfold; (try dsimp only)) | ((fail_if_success (with_reducible first | refine stop_at [76, 312] (by decide) ?_ | refine stop_st (by decide) ?_ | refine stop_bl (by decide) ?_ | refine stop_lc ?_ | refine stop_jp ?_ | show LCg.CompSrc _ _ _ _ _ _ _ _ _ _ _ _ _ _ | show LCt.CompSrcT _ _ _ _ _ _ _ _ _ _ _ _ _ _ _)); (first | ((with_reducible refine stop_cr ?_); first | (k_here; (with_reducible show wpAny _ _ (call (Value.ref 269) _) _ _ _); k_dflt (refine' hewn_use ?B ?F ?X ?T ?hk ?N ?ho ?U ?hcl ?hi ?hl ?h0 ?h1 ?m0 ?m1 ?d ?u ?_; (case B => k_asm); (case F => k_asm); (case X => k_asm); (case T => k_asm); (case hk => exact rfl); (case N => k_asm); (case ho => assumption); (case U => k_updF); (case hcl => first | (with_reducible assumption) | exact isl_keep (by assumption) (Fr.keep (by k_asm)) | exact News.isList (by k_asm) (by k_mem)); (case hi => assumption); (case hl => assumption); (case h0 => omega); (case h1 => omega); (case m0 => first | decide | omega); (case m1 => first | decide | omega); (case d => first | exact room2 (by assumption) (by exact rfl) | exact room1 (by assumption) (by exact rfl) | omega | (dsimp only [ktrTop]; omega)); (case u => first | exact room2 (by assumption) (by exact rfl) | exact room1 (by assumption) (by exact rfl) | omega | (dsimp only [ktrTop]; omega))); intro _ _ _ _ _ _ _ _ _ _ _; ktr_rel)) | (k_here; (with_reducible show wpAny _ _ (binaryOp Operator.Add (Value.str _ _) (Value.str _ _)) _ _ _); (refine add_len ?ka ?kb ?_; (case ka => omega); (case kb => omega)); intro _ _ _) | (k_here; (with_reducible show wpAny _ _ (subscriptTail _ _ (Value.ref _) (Value.int _ _)) _ _ _); k_dflt (refine' gap_item ?t ?a ?b ?_; (case t => exact News.isTup (by k_asm) (by k_mem)); (case a => assumption); (case b => assumption)); intro _ _ _ _) | walk1 | (dsimp only; first | walk1 | (k_unfold; (try dsimp only)))))))
      dsimp only
      exact hQ _ _ _ _ kk _ o' (.node hgp hpd hWr') (by omega) (by omega) (by omega) (kp_of N hg' F N8 (fun p hp np => by
        rw [List.mem_singleton.mp hp] at np
        exact absurd (List.mem_singleton.mpr rfl) np)) (N8 (ld, o') (by k_dflt k_mem)).1 hlog
theorem lwrit_all : ∀ n, LWritOk n
  | 0 => lwrit_step 0 (fun n' h => by cases h)
  | n + 1 => lwrit_step (n + 1) (fun n' h => by cases h; exact lwrit_all n)
/- SortP -/
theorem freshSortP : True := by
  w_top off
  trivial
section
open PySem PySem.W PyProof.Rows
/- the sort of pairwise different ints: plain -/
/-- the tree's asks answered by the keys -/
noncomputable def kwp (n : Nat) (key : Nat → Int) {α : Type} : KasT α → (α → Prop) → Prop
  | .ret a, Q => Q a
  | .ask i j k, Q => i < n ∧ j < n ∧ key i ≠ key j ∧ kwp n key (k (decide (key i < key j))) Q
section
variable {n : Nat} {key : Nat → Int} {α β : Type}
theorem kwp_mono {Q Q' : α → Prop} (h : ∀ a, Q a → Q' a) : ∀ t : KasT α, kwp n key t Q → kwp n key t Q'
  | .ret a, x => h a x
  | .ask _ _ _, x => ⟨x.1, x.2.1, x.2.2.1, kwp_mono h _ x.2.2.2⟩
theorem kwp_bind {f : α → KasT β} {Q : β → Prop} : ∀ t : KasT α, kwp n key t (fun a => kwp n key (f a) Q) → kwp n key (t.bind f) Q
  | .ret a, x => x
  | .ask _ _ k, x => ⟨x.1, x.2.1, x.2.2.1, kwp_bind (k _) x.2.2.2⟩
theorem kwp_run {cmp : Nat → Nat → (Bool → Shared → Prop) → Shared → Prop} {Inv : Shared → Prop} {G : α → Prop} {Q : α → Shared → Prop} (hc : ∀ i j C s, i < n → j < n → key i ≠ key j → Inv s → (∀ s', Inv s' → C (decide (key i < key j)) s') → cmp i j C s) (hQ : ∀ a s, G a → Inv s → Q a s) :
    ∀ (t : KasT α) (s : Shared), kwp n key t G → Inv s → t.kasWp cmp Q s
  | .ret a, s, x, i => hQ a s x i
  | .ask i j k, s, x, iv => hc i j _ s x.1 x.2.1 x.2.2.1 iv fun s' i' => kwp_run hc hQ (k _) s' x.2.2.2 i'
structure SOk (n : Nat) (p : Array Nat) : Prop where
  size : p.size = n
  perm : p.toList.Perm (List.range n)
theorem SOk.base : SOk n (List.toArray (List.range n)) := ⟨by simp, by simp⟩
variable {p : Array Nat}
theorem SOk.of {q : Array Nat} (h : SOk n p) (hp : q.Perm p) : SOk n q := ⟨hp.size_eq.trans h.size, (Array.perm_iff_toList_perm.mp hp).trans h.perm⟩
theorem SOk.get (h : SOk n p) {i : Nat} (hi : i < n) : p.getD i 0 = p[i]'(by rw [h.size]; exact hi) := by
  have : i < p.size := by rw [h.size]; exact hi
  simp [Array.getD, this]
theorem SOk.lt (h : SOk n p) {i : Nat} (hi : i < n) : p.getD i 0 < n := by
  rw [h.get hi]
  have : p[i]'(by rw [h.size]; exact hi) ∈ p.toList := by simp
  exact List.mem_range.mp (h.perm.mem_iff.mp this)
theorem SOk.ne (h : SOk n p) {i j : Nat} (hi : i < n) (hj : j < n) (hij : i ≠ j) : p.getD i 0 ≠ p.getD j 0 := by
  rw [h.get hi, h.get hj]
  have nd : p.toList.Nodup := h.perm.nodup_iff.mpr List.nodup_range
  have h1 : i < p.toList.length := by rw [Array.length_toList, h.size]; exact hi
  have h2 : j < p.toList.length := by rw [Array.length_toList, h.size]; exact hj
  intro e
  have pw := List.pairwise_iff_getElem.mp nd
  rcases Nat.lt_or_gt_of_ne hij with q | q
  · exact pw i j h1 h2 q (by simpa using e)
  · exact pw j i h2 h1 q (by simpa using e.symm)
noncomputable abbrev KP (key : Nat → Int) (p : Array Nat) (i : Nat) : Int := key (p.getD i 0)
noncomputable def Asc (key : Nat → Int) (p : Array Nat) (m : Nat) : Prop := ∀ i j, i < j → j < m → KP key p i < KP key p j
noncomputable def Desc (key : Nat → Int) (p : Array Nat) (m : Nat) : Prop := ∀ i j, i < j → j < m → KP key p j < KP key p i
variable (inj : ∀ i j, i < n → j < n → i ≠ j → key i ≠ key j)
include inj
theorem kp_ne (h : SOk n p) {i j : Nat} (hi : i < n) (hj : j < n) (hij : i ≠ j) : KP key p i ≠ KP key p j := inj _ _ (h.lt hi) (h.lt hj) (h.ne hi hj hij)
theorem kwp_asc (h : SOk n p) {Q : Nat → Prop} : ∀ (f m : Nat), 1 ≤ m → m + f = n → Asc key p m → (∀ m', m ≤ m' → m' ≤ n → Asc key p m' → (m' < n → KP key p m' < KP key p (m' - 1)) → Q m') → kwp n key (kas_asc p f m) Q
  | 0, m, h1, hf, ha, k => k m (Nat.le_refl _) (by omega) ha fun q => by omega
  | f + 1, m, h1, hf, ha, k => by
    refine ⟨h.lt (by omega), h.lt (by omega), kp_ne inj h (by omega) (by omega) (by omega), ?_⟩
    have hne := kp_ne inj h (i := m) (j := m - 1) (by omega) (by omega) (by omega)
    by_cases hc : KP key p m < KP key p (m - 1)
    · rw [decide_eq_true hc]; (try dsimp only); rw [if_pos rfl]
      exact k m (Nat.le_refl _) (by omega) ha fun _ => hc
    · rw [decide_eq_false hc]; (try dsimp only); rw [if_neg (by simp)]
      refine kwp_asc h f (m + 1) (by omega) (by omega) (fun i j hij hj => ?_) fun m' a b c d => k m' (by omega) b c d
      have hlast : KP key p (m - 1) < KP key p m := by omega
      by_cases hjm : j < m
      · exact ha i j hij hjm
      · obtain rfl : j = m := by omega
        by_cases hi : i = j - 1
        · rw [hi]; exact hlast
        · exact Int.lt_trans (ha i (j - 1) (by omega) (by omega)) hlast
theorem kwp_desc (h : SOk n p) {Q : Array Nat × Nat × Nat → Prop} : ∀ (f m : Nat), 1 ≤ m → m + f = n → Desc key p m → (∀ m', m ≤ m' → m' ≤ n → Desc key p m' → Q (p, m', 0)) → kwp n key (kas_desc f p m 0) Q
  | 0, m, h1, hf, ha, k => k m (Nat.le_refl _) (by omega) ha
  | f + 1, m, h1, hf, ha, k => by
    refine ⟨h.lt (by omega), h.lt (by omega), kp_ne inj h (by omega) (by omega) (by omega), ?_⟩
    have hne := kp_ne inj h (i := m) (j := m - 1) (by omega) (by omega) (by omega)
    by_cases hc : KP key p m < KP key p (m - 1)
    · rw [decide_eq_true hc]; (try dsimp only); rw [if_pos rfl, if_neg (by omega)]
      refine kwp_desc h f (m + 1) (by omega) (by omega) (fun i j hij hj => ?_) fun m' a b c => k m' (by omega) b c
      by_cases hjm : j < m
      · exact ha i j hij hjm
      · obtain rfl : j = m := by omega
        by_cases hi : i = j - 1
        · rw [hi]; exact hc
        · exact Int.lt_trans hc (ha i (j - 1) (by omega) (by omega))
    · rw [decide_eq_false hc]; (try dsimp only); rw [if_neg (by simp)]
      refine ⟨h.lt (by omega), h.lt (by omega), kp_ne inj h (by omega) (by omega) (by omega), ?_⟩
      have hlast : KP key p (m - 1) < KP key p m := by omega
      rw [decide_eq_true hlast]; (try dsimp only); rw [if_pos rfl]
      exact k m (Nat.le_refl _) (by omega) ha
omit inj in
theorem getD_opt {q : Array Nat} (i : Nat) : q.getD i 0 = (q[i]?).getD 0 := by
  by_cases h : i < q.size <;> simp [Array.getD, h]
omit inj in
theorem rev_asc (h : SOk n p) {m : Nat} (hm : m ≤ n) (hd : Desc key p m) : Asc key (kas_rev p 0 m) m := fun i j hij hj => by
  have e : ∀ k, k < m → KP key (kas_rev p 0 m) k = KP key p (m - 1 - k) := fun k hk => by
    show key _ = key _
    rw [getD_opt, getD_opt]
    unfold kas_rev
    rw [getElem?_mirror_all (by rw [h.size]; exact hm), if_pos ⟨Nat.zero_le _, hk⟩, show 0 + m - 1 - k = m - 1 - k by omega]
  rw [e i (by omega), e j hj]
  exact hd (m - 1 - j) (m - 1 - i) (by omega) (by omega)
omit inj in
theorem rev_ok (h : SOk n p) (i j : Nat) : SOk n (kas_rev p i j) := h.of (mirror_perm _ _ _ _)
theorem kwp_tail3 (h : SOk n p) {m : Nat} (h1 : 1 ≤ m) (hm : m ≤ n) (hd : Desc key p m) {Q : Nat × Array Nat → Prop} (k : ∀ m' q, 1 ≤ m' → m' ≤ n → SOk n q → Asc key q m' → Q (m', q)) : kwp n key (kas_tail3 m n p) Q := by
  unfold kas_tail3
  refine kwp_bind _ (kwp_asc inj (rev_ok h 0 m) (n - m) m h1 (by omega) (rev_asc h hm hd) fun m' a b c _ => ?_)
  exact k m' _ (by omega) b (rev_ok h 0 m) c
theorem kwp_count (h : SOk n p) (h2 : 2 ≤ n) {Q : Nat × Array Nat → Prop} (k : ∀ m' q, 1 ≤ m' → m' ≤ n → SOk n q → Asc key q m' → Q (m', q)) : kwp n key (kas_count n p) Q := by
  unfold kas_count
  refine kwp_bind _ (kwp_asc inj h (n - 1) 1 (Nat.le_refl _) (by omega) (fun i j hij hj => by omega) fun m a b c d => ?_)
  by_cases hmn : m = n
  · rw [if_pos (by simp [hmn])]
    exact k m p a b h c
  · rw [if_neg (by simp [hmn])]
    by_cases hm : m > 1
    · rw [if_pos hm]
      refine ⟨h.lt (by omega), h.lt (by omega), kp_ne inj h (by omega) (by omega) (by omega), ?_⟩
      rw [decide_eq_true (c 0 (m - 1) (by omega) (by omega))]; (try dsimp only); rw [if_pos rfl]
      exact k m p a b h c
    · rw [if_neg hm]
      obtain rfl : m = 1 := by omega
      unfold kas_descPart
      have hd := d (by omega)
      refine kwp_bind _ (kwp_desc inj h (n - 2) 2 (by omega) (by omega) (fun i j hij hj => ?_) fun m' x y z => ?_)
      · obtain rfl : j = 1 := by omega
        obtain rfl : i = 0 := by omega
        exact hd
      · dsimp only
        rw [if_neg (by omega)]
        exact kwp_tail3 inj h (by omega) y z k
theorem kwp_place (h : SOk n p) {k : Nat} (hk : k < n) {Q : Nat → Prop} : ∀ (f l r : Nat), l ≤ r → r ≤ k → r - l ≤ f → Asc key p k → (∀ i, i < l → KP key p i < KP key p k) → (∀ i, r ≤ i → i < k → KP key p k < KP key p i) →
    (∀ l', l' ≤ k → (∀ i, i < l' → KP key p i < KP key p k) → (∀ i, l' ≤ i → i < k → KP key p k < KP key p i) → Q l') → kwp n key (kas_place p k f l r) Q
  | 0, l, r, h1, h2, hf, ha, x, y, q => by
    obtain rfl : l = r := by omega
    exact q l h2 x y
  | f + 1, l, r, h1, h2, hf, ha, x, y, q => by
    unfold kas_place
    by_cases hlr : l ≥ r
    · rw [if_pos hlr]
      obtain rfl : l = r := by omega
      exact q l h2 x y
    · rw [if_neg hlr]
      have hmid : (l + r) / 2 < r := by omega
      have hmid2 : l ≤ (l + r) / 2 := by omega
      generalize (l + r) / 2 = c at hmid hmid2
      have hne := kp_ne inj h (i := k) (j := c) hk (by omega) (by omega)
      refine ⟨h.lt hk, h.lt (by omega), hne, ?_⟩
      by_cases hc : KP key p k < KP key p c
      · rw [decide_eq_true hc]; (try dsimp only); rw [if_pos rfl]
        refine kwp_place h hk f l c hmid2 (by omega) (by omega) ha x (fun i hi hik => ?_) q
        by_cases e : i = c
        · rw [e]; exact hc
        · exact Int.lt_trans hc (ha c i (by omega) hik)
      · rw [decide_eq_false hc]; (try dsimp only); rw [if_neg (by simp)]
        have hc2 : KP key p c < KP key p k := by omega
        refine kwp_place h hk f (c + 1) r (by omega) h2 (by omega) ha (fun i hi => ?_) y q
        by_cases e : i = c
        · rw [e]; exact hc2
        · exact Int.lt_trans (ha i c (by omega) (by omega)) hc2
omit inj in
theorem bub_ok (h : SOk n p) (i j : Nat) : SOk n (bubble p i j) := h.of (bubble_perm _ _ _)
omit inj in
theorem bub_asc (h : SOk n p) {k l : Nat} (hk : k < n) (hl : l ≤ k) (ha : Asc key p k) (x : ∀ i, i < l → KP key p i < KP key p k) (y : ∀ i, l ≤ i → i < k → KP key p k < KP key p i) : Asc key (bubble p k (k - l)) (k + 1) := fun i j hij hj => by
  have e : ∀ t, KP key (bubble p k (k - l)) t = if t = l then KP key p k else if l < t ∧ t ≤ k then KP key p (t - 1) else KP key p t := fun t => by
    show key _ = _
    rw [getD_opt, getElem?_bubble (by rw [h.size]; exact hk) (k - l) (by omega), show k - (k - l) = l by omega]
    split
    · rw [← getD_opt]
    · split
      · rw [← getD_opt]
      · rw [← getD_opt]
  rw [e i, e j]
  split
  · rename_i hi
    subst hi
    rw [if_neg (by omega), if_pos ⟨hij, by omega⟩]
    exact y _ (by omega) (by omega)
  · split
    · rename_i hi
      rw [if_neg (by omega), if_pos (by omega)]
      exact ha _ _ (by omega) (by omega)
    · rename_i h1 h2
      have hil : i < l := by omega
      split
      · exact x i hil
      · split
        · exact ha _ _ (by omega) (by omega)
        · exact ha _ _ hij (by omega)
theorem kwp_bin {Q : Array Nat → Prop} : ∀ (f : Nat) (p : Array Nat) (k : Nat), SOk n p → k + f = n → Asc key p k → (∀ q, SOk n q → Asc key q n → Q q) → kwp n key (kas_bin f p k) Q
  | 0, p, k, h, hf, ha, q => by
    obtain rfl : k = n := by omega
    exact q p h ha
  | f + 1, p, k, h, hf, ha, q => by
    unfold kas_bin
    refine kwp_bind _ (kwp_place inj h (by omega) k 0 k (Nat.zero_le _) (Nat.le_refl _) (by omega) ha (fun i hi => by omega) (fun i h1 h2 => by omega) fun l a x y => ?_)
    exact kwp_bin f _ (k + 1) (bub_ok h _ _) (by omega) (bub_asc h (by omega) a ha x y) q
/-- the library's sort, its asks answered by different keys, brings them into order -/
theorem kwp_sort (h2 : 2 ≤ n) : kwp n key (kas_sort n) (fun p => SOk n p ∧ Asc key p n) := by
  unfold kas_sort
  refine kwp_bind _ (kwp_count inj SOk.base h2 fun m q h1 hm hq ha => ?_)
  dsimp only
  by_cases hlt : m < n
  · rw [if_pos hlt, show max m 1 = m by omega]
    exact kwp_bin inj _ q m hq (by omega) ha fun q' a b => ⟨a, b⟩
  · rw [if_neg hlt]
    obtain rfl : m = n := by omega
    exact ⟨hq, ha⟩
end
end
/- SortUse -/
theorem freshSortUse : True := by
  w_top off
  trivial
/- sorted over pairs (a place, a text) whose places differ -/
noncomputable abbrev prObj (k : Int) (w : Str) (t1 t2 : Tok) : Obj := { cls := .type "tuple", data := .seq #[.int k t1, .str w t2] }
inductive PrAll (tl : List (Addr × Obj)) : List Value → List (Int × Str) → Prop
  | nil : PrAll tl [] []
  | cons {q : Addr} {k : Int} {w : Str} {t1 t2 : Tok} {vs : List Value} {ps : List (Int × Str)} : (q, prObj k w t1 t2) ∈ tl → PrAll tl vs ps → PrAll tl (.ref q :: vs) ((k, w) :: ps)
theorem PrAll.mono {tl tl' : List (Addr × Obj)} (k : ∀ p ∈ tl, p ∈ tl') : ∀ {vs : List Value} {ws : List (Int × Str)}, PrAll tl vs ws → PrAll tl' vs ws
  | _, _, .nil => .nil
  | _, _, .cons h r => .cons (k _ h) (r.mono k)
theorem PrAll.length {tl : List (Addr × Obj)} : ∀ {vs : List Value} {ps : List (Int × Str)}, PrAll tl vs ps → vs.length = ps.length
  | _, _, .nil => rfl
  | _, _, .cons _ r => congrArg (· + 1) r.length
theorem PrAll.append {tl : List (Addr × Obj)} : ∀ {vs ws : List Value} {ps qs : List (Int × Str)}, PrAll tl vs ps → PrAll tl ws qs → PrAll tl (vs ++ ws) (ps ++ qs)
  | _, _, _, _, .nil, h => h
  | _, _, _, _, .cons h r, h' => .cons h (r.append h')
theorem PrAll.at {tl : List (Addr × Obj)} : ∀ {vs : List Value} {ps : List (Int × Str)} {i : Nat}, PrAll tl vs ps → i < ps.length → ∃ q t1 t2, vs.getD i .none = .ref q ∧ (q, prObj (ps.getD i (0, Str.empty)).1 (ps.getD i (0, Str.empty)).2 t1 t2) ∈ tl
  | _, _, _, .nil, h => absurd h (Nat.not_lt_zero _)
  | _, _, 0, .cons hm _, _ => ⟨_, _, _, rfl, hm⟩
  | _, _, i + 1, .cons _ r, h => by
    obtain ⟨q, t1, t2, a, b⟩ := r.at (i := i) (Nat.lt_of_succ_lt_succ h)
    exact ⟨q, t1, t2, by simpa using a, by simpa using b⟩
theorem PrAll.pick {tl : List (Addr × Obj)} {vs : List Value} {ps : List (Int × Str)} (h : PrAll tl vs ps) : ∀ (l : List Nat), (∀ i ∈ l, i < ps.length) → PrAll tl (l.map fun i => vs.getD i .none) (l.map fun i => ps.getD i (0, Str.empty))
  | [], _ => .nil
  | i :: l, hl => by
    obtain ⟨q, t1, t2, a, b⟩ := h.at (hl i (.head _))
    rw [List.map_cons, List.map_cons, a]
    exact .cons b (h.pick l fun j hj => hl j (.tail _ hj))
theorem map_getD_range {α : Type} (l : List α) (d : α) : (List.range l.length).map (fun i => l.getD i d) = l := by
  apply List.ext_getElem
  · simp
  · intro i h1 h2
    simp at h1
    simp [h1]
section
variable {prog : Program} {w : World} {A : Around} {E : Value → Shared → Prop} {s : Shared} {h₀ : Heap} {L l : Addr} {m : Str → Option Value} {news : List (Addr × Obj)} {vs : List Value} {ps : List (Int × Str)} {Q : Value → Shared → Prop}
theorem pr_tups (N : ∀ p ∈ news, s.heap.get? p.1 = some p.2) : ∀ {vs : List Value} {ps : List (Int × Str)}, PrAll news vs ps → ∃ fs, KatTups s.heap vs fs ∧ fs.length = ps.length ∧ ∀ v ∈ fs, ∃ k t, v = .int k t
  | _, _, .nil => ⟨[], .nil, rfl, fun _ h => nomatch h⟩
  | _, _, .cons hm r => by
    obtain ⟨fs, a, b, c⟩ := pr_tups N r
    refine ⟨_ :: fs, .cons (N _ hm) rfl rfl rfl a, congrArg (· + 1) b, fun v hv => ?_⟩
    rcases List.mem_cons.mp hv with rfl | hv
    · exact ⟨_, _, rfl⟩
    · exact c v hv
theorem sorted_two (F : Fr h₀ L s.heap m) (N : News h₀ L s.heap news) (hl : s.heap.IsList l vs.toArray) (hp : PrAll news vs ps) (h2 : 2 ≤ ps.length) (h64 : ps.length < 64) (hnd : (ps.map (·.1)).Nodup)
    (h : ∀ D c h' tk vs' ps', Fr h₀ L h' m → News h₀ L h' ((D, PySem.W.listOf (vs' : List Value).toArray c) :: news) → (∀ q ∈ news, q.1 ≠ D) → PrAll news vs' ps' → ps'.Perm ps → ps'.Pairwise (fun a b => a.1 < b.1) → Q (.ref D) { s with heap := h', toks := tk }) :
    wpAny (model prog w) A (call (.builtin "sorted") [.ref l]) Q E s := by
  have hlen := hp.length
  refine kat_sorted F N hl (by omega) (by omega) fun D e1 h' F' N' l1 => ?_
  have Ng : ∀ p ∈ news, h'.get? p.1 = some p.2 := fun p hp => (N' p (.tail _ hp)).1
  obtain ⟨fs, hK, hfl, hfi⟩ := pr_tups (s := { s with heap := h' }) Ng hp
  refine kat_kind (T := .type "int") hK (by omega) (fun v hv => ?_) (by decide) ?_
  · obtain ⟨k, t, rfl⟩ := hfi v hv
    exact Looks.of_pure rfl
  have inj : ∀ i j, i < vs.length → j < vs.length → i ≠ j → (ps.getD i (0, Str.empty)).1 ≠ (ps.getD j (0, Str.empty)).1 := by
    have pw := List.pairwise_iff_getElem.mp hnd
    have key : ∀ i j, i < vs.length → j < vs.length → i < j → (ps.getD i (0, Str.empty)).1 ≠ (ps.getD j (0, Str.empty)).1 := fun i j hi hj hij => by
      have hi' : i < ps.length := by omega
      have hj' : j < ps.length := by omega
      have := pw i j (by simpa using hi') (by simpa using hj') hij
      simpa [hi', hj'] using this
    intro i j hi hj hij
    rcases Nat.lt_or_gt_of_ne hij with q | q
    · exact key i j hi hj q
    · exact Ne.symm (key j i hj hi q)
  refine kwp_run (n := vs.length) (key := fun i => (ps.getD i (0, Str.empty)).1) (Inv := fun s' => s' = { s with heap := h' }) (G := fun p => SOk vs.length p ∧ Asc (fun i => (ps.getD i (0, Str.empty)).1) p vs.length) ?_ ?_ _ _ (kwp_sort inj (by omega)) rfl
  · intro i j C s' hi hj hne hs hC
    subst hs
    obtain ⟨q1, t1, t2, e1', m1⟩ := hp.at (i := i) (by omega)
    obtain ⟨q2, t3, t4, e2', m2⟩ := hp.at (i := j) (by omega)
    unfold kas_ask
    rw [e1', e2']
    refine kat_lt (Ng _ m1) rfl (Ng _ m2) rfl ?_
    refine kat_cons (wpAny_eqBool_int ?_)
    have hb : ((ps.getD i (0, Str.empty)).1 == (ps.getD j (0, Str.empty)).1) = false := by simpa using hne
    rw [hb]
    refine kat_no ?_
    exact oneLt_int (hC _ rfl)
  · intro p s' hG hs
    subst hs
    obtain ⟨hS, hA⟩ := hG
    have hbd : ∀ i ∈ p.toList, i < ps.length := fun i hi => by
      have := List.mem_range.mp (hS.perm.mem_iff.mp hi)
      omega
    refine KasFin.intro F' N' (.head fun q hq => Nat.ne_of_lt (l1 q hq)) fun h'' c F'' N'' => ?_
    refine h D c h'' _ _ _ F'' N'' (fun q hq => Nat.ne_of_lt (l1 q hq)) (hp.pick p.toList hbd) ?_ ?_
    · have h1 := hS.perm.map (fun i => ps.getD i (0, Str.empty))
      rw [hlen, map_getD_range] at h1
      exact h1
    · rw [List.pairwise_map, List.pairwise_iff_getElem]
      intro i j hi hj hij
      have hsz : p.toList.length = vs.length := by rw [Array.length_toList, hS.size]
      have hi' : i < p.size := by rw [← Array.length_toList]; exact hi
      have hj' : j < p.size := by rw [← Array.length_toList]; exact hj
      have h1 := hA i j hij (by omega)
      have g1 : p.getD i 0 = p.toList[i] := by simp [Array.getD, hi']
      have g2 : p.getD j 0 = p.toList[j] := by simp [Array.getD, hj']
      rw [← g1, ← g2]
      exact h1
theorem list_sort_few {a : Addr} {n : Nat} {P : PySem.Fin → Shared → Prop} (F : Fr h₀ L s.heap m) (N : News h₀ L s.heap news) (ho : s.heap.get? a = some (seqObj "list" vs.toArray n)) (haL : a ≠ L) (ha0 : h₀.get? a = none) (hna : ∀ p ∈ news, p.1 ≠ a) (h2 : vs.length < 2)
    (h : ∀ c h', Fr h₀ L h' m → News h₀ L h' ((a, PySem.W.listOf vs.toArray c) :: news) → P (.done (.ret .none)) { s with heap := h' }) :
    wpAny (model prog w) A (Builtin.«list.sort» ⟨[.ref a], []⟩) P E s := by
  have ha : a < s.heap.objs.size := Heap.lt_size ho
  have s1 := Heap.SameBut.update s.heap a (Obj.mapSeq fun _ => (#[] : Array Value))
  obtain ⟨e1, ho1⟩ : ∃ e1, (s.heap.update a (Obj.mapSeq fun _ => (#[] : Array Value))).get? a = some (seqObj "list" #[] e1) := ⟨_, get?_update_seq ho fun _ => #[]⟩
  have F3 : Fr h₀ L (((s.heap.update a (Obj.mapSeq fun _ => (#[] : Array Value))).push (seqObj "tuple" vs.toArray 0)).push (seqObj "list" #[] 0)) m := ((kas_fr F s1 haL ha0).push _).push _
  have N2 : News h₀ L (((s.heap.update a (Obj.mapSeq fun _ => (#[] : Array Value))).push (seqObj "tuple" vs.toArray 0)).push (seqObj "list" #[] 0)) news :=
    (kas_news N s1 hna).grown fun b x e => Heap.get?_push_of_some _ (Heap.get?_push_of_some _ e)
  have ho6 : (((s.heap.update a (Obj.mapSeq fun _ => (#[] : Array Value))).push (seqObj "tuple" vs.toArray 0)).push (seqObj "list" #[] 0)).get? a = some (seqObj "list" #[] e1) := Heap.get?_push_of_some _ (Heap.get?_push_of_some _ ho1)
  rw [list_sort_plain]
  refine wpAny_bind (listItems_at ho rfl ?_)
  refine wpAny_bind (listUpdate_at ho rfl ?_ (by rw [List.size_toArray, sizeLine_eq]; omega) (Nat.zero_le _))
  refine wpAny_bind (seqEpoch_at ho1 rfl ?_)
  refine wpAny_bind (wpAny_newTuple ?_ (by show vs.length ≤ _; rw [sizeLine_eq]; omega))
  refine wpAny_bind (wpAny_newList ?_ (Nat.zero_le _))
  refine wpAny_holding ?_
  show wpAny (model prog w) A _ P E { s with heap := ((s.heap.update a (Obj.mapSeq fun _ => (#[] : Array Value))).push (seqObj "tuple" vs.toArray 0)).push (seqObj "list" #[] 0) }
  dsimp only
  have hn2 : vs.toArray.size < 2 := by rw [List.size_toArray]; omega
  rw [if_pos hn2, if_pos hn2]
  refine wpAny_bind (wpAny_pure ?_)
  rw [StateT.run_pure]
  refine wpAny_bind (wpAny_pure ?_)
  dsimp only
  have hout : ((vs.toArray.zip vs.toArray).map (·.2) : Array Value) = vs.toArray := by
    apply Array.toList_inj.mp
    apply List.ext_getElem <;> simp
  refine wpAny_bind (seqEpoch_at ho6 rfl ?_)
  have hsm : ((arrOf (SortSt.mk' general' (vs.toArray.zip vs.toArray) #[] 7 none)).map (·.2)) = vs.toArray := hout
  have s2 := Heap.SameBut.update (((s.heap.update a (Obj.mapSeq fun _ => (#[] : Array Value))).push (seqObj "tuple" vs.toArray 0)).push (seqObj "list" #[] 0)) a (Obj.mapSeq fun _ => vs.toArray)
  obtain ⟨c2, hc2⟩ : ∃ c2, ((((s.heap.update a (Obj.mapSeq fun _ => (#[] : Array Value))).push (seqObj "tuple" vs.toArray 0)).push (seqObj "list" #[] 0)).update a (Obj.mapSeq fun _ => vs.toArray)).get? a = some (seqObj "list" vs.toArray c2) := ⟨_, get?_update_seq ho6 fun _ => vs.toArray⟩
  rw [hsm]
  refine wpAny_bind (listUpdate_at ho6 rfl ?_ (Nat.zero_le _) (by rw [List.size_toArray, sizeLine_eq]; omega))
  simp only [bne_self_eq_false, Bool.false_eq_true, if_false]
  refine wpAny_pure (h c2 _ (kas_fr F3 s2 haL ha0) fun p hp => ?_)
  rcases List.mem_cons.mp hp with rfl | hp
  · exact ⟨hc2, haL, ha0⟩
  · exact (kas_news N2 s2 hna) p hp
theorem sorted_few (F : Fr h₀ L s.heap m) (N : News h₀ L s.heap news) (hl : s.heap.IsList l vs.toArray) (h2 : vs.length < 2)
    (h : ∀ D c h', Fr h₀ L h' m → News h₀ L h' ((D, PySem.W.listOf vs.toArray c) :: news) → (∀ q ∈ news, q.1 ≠ D) → Q (.ref D) { s with heap := h' }) :
    wpAny (model prog w) A (call (.builtin "sorted") [.ref l]) Q E s := by
  refine Calls.call_function_entry kind_sorted plain_sorted entry_sorted (args_sorted1 _) ?_
  unfold Builtin.«sorted»
  refine wpAny_bind (m := checkCount "sorted" 1 1 _) (wpAny_pure ?_)
  refine wpAny_bind (collect_list hl ?_ (by rw [sizeLine_eq]; omega))
  refine wpAny_bind (wpAny_newList ?_ (by rw [sizeLine_eq]; omega))
  have hsz : ((s.heap.push (seqObj "list" #[] 0)).update s.heap.objs.size (Obj.mapSeq (· ++ vs.toArray))).objs.size = s.heap.objs.size + 1 := by
    rw [Heap.size_update, size_push']
  have hoL : (((s.heap.push (seqObj "list" #[] 0)).update s.heap.objs.size (Obj.mapSeq (· ++ vs.toArray))).push (seqObj "list" vs.toArray 0)).get? (s.heap.objs.size + 1) = some (seqObj "list" vs.toArray 0) := by
    rw [← hsz]; exact Heap.get?_push_size _ rfl
  have keep : ∀ b o, s.heap.get? b = some o → (((s.heap.push (seqObj "list" #[] 0)).update s.heap.objs.size (Obj.mapSeq (· ++ vs.toArray))).push (seqObj "list" vs.toArray 0)).get? b = some o := fun b o q => by
    have hlt : b < s.heap.objs.size := Heap.lt_size q
    rw [Heap.get?_push_ne _ _ _ (by rw [hsz]; exact Nat.ne_of_lt (Nat.lt_succ_of_lt hlt)), Heap.get?_update_ne _ _ _ _ (Nat.ne_of_lt hlt), Heap.get?_push_ne _ _ _ (Nat.ne_of_lt hlt)]
    exact q
  have hL : L < s.heap.objs.size := F.ns.lt
  show wpAny _ _ _ _ _ { s with heap := ((s.heap.push (seqObj "list" #[] 0)).update s.heap.objs.size (Obj.mapSeq (· ++ vs.toArray))).push (seqObj "list" vs.toArray 0) }
  rw [hsz]
  refine wpAny_bind (wpAny_holding (wpAny_call_entry slot_list_sort ⟨_, hoL, rfl⟩ entry_list_sort ?body (args_list_sort _)))
  case body =>
    refine list_sort_few (s := { s with heap := ((s.heap.push (seqObj "list" #[] 0)).update s.heap.objs.size (Obj.mapSeq (· ++ vs.toArray))).push (seqObj "list" vs.toArray 0) })
      (F.kept keep) (N.grown keep) hoL (Nat.ne_of_gt (Nat.lt_succ_of_lt hL)) (Heap.get?_none_of_le (Nat.le_trans F.above (Nat.le_succ_of_le (Nat.le_of_lt hL))))
      (fun p hp => Nat.ne_of_lt (Nat.lt_succ_of_lt (Heap.lt_size (N p hp).1))) h2 fun c h' F' N' => ?_
    exact ⟨_, rfl, wpAny_pure ⟨_, rfl, h _ c h' F' N' (fun q hq => Nat.ne_of_lt (Nat.lt_succ_of_lt (Heap.lt_size (N q hq).1)))⟩⟩
theorem sorted_use (F : Fr h₀ L s.heap m) (N : News h₀ L s.heap news) (hl : s.heap.IsList l vs.toArray) (hp : PrAll news vs ps) (h64 : ps.length < 64) (hnd : (ps.map (·.1)).Nodup)
    (h : ∀ D c h' tk vs' ps', Fr h₀ L h' m → News h₀ L h' ((D, PySem.W.listOf (vs' : List Value).toArray c) :: news) → (∀ q ∈ news, q.1 ≠ D) → PrAll news vs' ps' → ps'.Perm ps → ps'.Pairwise (fun a b => a.1 < b.1) → Q (.ref D) { s with heap := h', toks := tk }) :
    wpAny (model prog w) A (call (.builtin "sorted") [.ref l]) Q E s := by
  have hlen := hp.length
  by_cases h2 : 2 ≤ ps.length
  · exact sorted_two F N hl hp h2 h64 hnd h
  · refine sorted_few F N hl (by omega) fun D c h' F' N' hne => h D c h' _ vs ps F' N' hne hp (List.Perm.refl _) ?_
    match ps, h2 with
    | [], _ => exact .nil
    | [_], _ => exact List.pairwise_singleton _ _
    | _ :: _ :: _, h2 => exact absurd (by simp) h2
end
/- Zip -/
theorem freshZip : True := by
  w_top off
  trivial
section
open PySem PySem.W PySem.Calls PySem.Spec PyProof.Rows PyProof.Rows.LCg PyProof.Rows.LCt
/- a comprehension over pairs that an iterator hands out (zip) -/
noncomputable def hidL (HA : List Addr) (h : Heap) : List (Addr × Obj) := HA.map fun b => (b, (h.get? b).getD emptyDict)
section
variable {prog : Program} {w : World} {A : Around} {E : Value → Shared → Prop} {s s₁ : Shared} {h₀ : Heap} {L : Addr} {m : Str → Option Value} {env : Env} {elt iter : Expr} {x x₂ : Str} {scope : Scope} {cl : List (Str × Addr)}
noncomputable def TurnZ (prog : Program) (w : World) (A : Around) (h₀ : Heap) (L : Addr) (m : Str → Option Value) (env : Env) (elt : Expr) (x x₂ : Str) (scope : Scope) (cl : List (Str × Addr)) (s : Shared) (HA : List Addr) (keep : List (Addr × Obj)) (Pt : Nat → Array Value → Prop) (n : Nat) (Inv : Nat → List Value → List (Addr × Obj) → Prop) : Prop :=
  ∀ i ys nw v₁ v₂ C oC D m₂ h tk (E' : Value → Shared → Prop), i < n → Inv i ys nw → Pt i #[v₁, v₂] → NsObj oC m₂ → m₂ x = some v₁ → m₂ x₂ = some v₂ → Fr h₀ L h m → News h₀ L h ((C, oC) :: (D, lst ys) :: (hidL HA h ++ nw)) → C ≠ D → (∀ p ∈ nw, p.1 ≠ C ∧ p.1 ≠ D ∧ p.1 ∉ HA) → (∀ p ∈ keep, p ∈ nw) →
    wpAny (model prog w) A (eval elt (compEnvC scope cl C env)) (fun v s' => ∃ h' tk' nw', s' = { s with heap := h', toks := tk' } ∧ Fr h₀ L h' m ∧ News h₀ L h' ((C, oC) :: (D, lst ys) :: (hidL HA h ++ nw')) ∧ (∀ p ∈ nw', p.1 ≠ C ∧ p.1 ≠ D ∧ p.1 ∉ HA) ∧ (∀ p ∈ keep, p ∈ nw') ∧ Inv (i + 1) (ys ++ [v]) nw') E' { s with heap := h, toks := tk }
theorem block_Z {px px₂ tp : Pos} {tk} {pos : Pos} {s₂ : Shared} {I : Addr} {fp wr HA : List Addr} {keep news : List (Addr × Obj)} {n : Nat} {Pt : Nat → Array Value → Prop} {St : Nat → Heap → Prop} {Mid : Nat → Addr → Heap → Prop}
    {Inv : Nat → List Value → List (Addr × Obj) → Prop} {Fin : List Value → List (Addr × Obj) → Prop} {RR : Value → Addr → Result → Shared → Prop}
    (W : WalksT prog w A I fp wr n Pt St Mid) (hpair : ∀ i vals, Pt i vals → ∃ a b, vals = #[a, b]) (hsz : n ≤ sizeLine) (hHA : ∀ b ∈ HA, b ≠ L ∧ h₀.get? b = none ∧ b < s₂.heap.objs.size) (hwr : ∀ b ∈ wr, b ∈ HA) (hfp : ∀ b ∈ fp, b ∈ HA ∨ ∃ o, (b, o) ∈ keep) (hex : ∀ i h, St i h → ∀ b ∈ HA, ∃ o, h.get? b = some o)
    (hcell : ∀ y ∈ scope.names, y.2 ≠ .cell) (hkind : scope.kind = .function) (hx : scope.names.lookup x = some .local) (hx₂ : scope.names.lookup x₂ = some .local) (hxx : x ≠ x₂) (hh : A.handled = none) (hst : St 0 s₂.heap)
    (F : Fr h₀ L s₂.heap m) (N : News h₀ L s₂.heap news) (off : ∀ p ∈ news, p.1 ∉ HA) (hkeep : ∀ p ∈ keep, p ∈ news) (h0 : Inv 0 [] news)
    (turn : TurnZ prog w A h₀ L m env elt x x₂ scope cl s₂ HA keep Pt n Inv) (fin : ∀ ys nw, Inv n ys nw → Fin ys nw)
    (hRR : ∀ D C h tk m' ys news', Fr h₀ L h m → News h₀ L h ((D, lst ys) :: news') → (∀ p ∈ news', p.1 ≠ D) → h.Ns C m' → h₀.get? C = none → h₀.get? D = none → C ≠ L → D ≠ L → C ≠ D → (∀ p ∈ news', p.1 ≠ C) → Fin ys news' → RR (.ref D) C (.ok .next) { s₂ with heap := h, toks := tk }) :
    wpAny (model prog w) A (newList []) (fun acc s₃ => wpAny (model prog w) A (newFunctionEnv scope env.globals cl [] env.qual none .none (some env)) (fun cenv s₄ =>
      codeAny (model prog w) A (.compStart (.ListComp elt [⟨.Tuple [.Name x px, .Name x₂ px₂] tk tp, iter, [], 0⟩] scope pos) 0 (.ref I) acc { cenv with scope := relabel scope env }) (RR acc cenv.locals) s₄) E s₃) E s₂ := by
  refine wpAny_newObj_type (wpAny_newFunctionEnv hcell (by intro y hy; simp at hy) (fun h₁ hns₁ hsb₁ => ?_) hkind)
  dsimp only at hns₁ hsb₁ ⊢
  generalize hH2 : s₂.heap.push { cls := .type "list", dict := none, data := .seq ([] : List Value).toArray } = H2 at hns₁ hsb₁ ⊢
  have hC : H2.objs.size = s₂.heap.objs.size + 1 := by rw [← hH2, Heap.size_push]
  have hDC : s₂.heap.objs.size ≠ H2.objs.size := by rw [hC]; exact Nat.ne_of_lt (Nat.lt_succ_self _)
  have below : ∀ b, b < s₂.heap.objs.size → b ≠ H2.objs.size ∧ b ≠ s₂.heap.objs.size := fun b hb => ⟨by rw [hC]; exact Nat.ne_of_lt (Nat.lt_succ_of_lt hb), Nat.ne_of_lt hb⟩
  have hCHA : H2.objs.size ∉ HA := fun hm => (below _ (hHA _ hm).2.2).1 rfl
  have hDHA : s₂.heap.objs.size ∉ HA := fun hm => (below _ (hHA _ hm).2.2).2 rfl
  have old : ∀ b o, s₂.heap.get? b = some o → h₁.get? b = some o := fun b o e => hsb₁.extBut b o (below b (Heap.lt_size e)).1 (Heap.get?_push_of_some _ (hH2 ▸ Heap.get?_push_of_some _ e))
  have hacc : h₁.get? s₂.heap.objs.size = some (lst []) := hsb₁.extBut _ _ hDC (Heap.get?_push_of_some _ (hH2 ▸ Heap.get?_push_size _ rfl))
  have hst₁ : St 0 h₁ := W.frame _ _ _ hst fun b _ o e => old b o e
  have fresh : ∀ a, s₂.heap.objs.size ≤ a → s₂.heap.get? a = none := fun a ha => by
    cases e : s₂.heap.get? a with
    | none => rfl
    | some o' => exact absurd (Heap.lt_size e) (Nat.not_lt.mpr ha)
  have fresh₀ : ∀ a, s₂.heap.objs.size ≤ a → h₀.get? a = none := fun a ha => by
    cases e : h₀.get? a with
    | none => rfl
    | some o' => have := F.keep a o' e; rw [fresh a ha] at this; cases this
  have hD₀ : h₀.get? s₂.heap.objs.size = none := fresh₀ _ (Nat.le_refl _)
  have hC₀ : h₀.get? H2.objs.size = none := fresh₀ _ (by rw [hC]; exact Nat.le_succ _)
  have hLlt : L < s₂.heap.objs.size := F.ns.lt
  have hDL : s₂.heap.objs.size ≠ L := Ne.symm (below L hLlt).2
  have hCL : H2.objs.size ≠ L := Ne.symm (below L hLlt).1
  have hLHA : L ∉ HA := fun hm => (hHA L hm).1 rfl
  have fr_wr : ∀ {h h' : Heap}, Fr h₀ L h m → (∀ b o, b ∉ wr → h.get? b = some o → h'.get? b = some o) → Fr h₀ L h' m := fun F' hk =>
    ⟨F'.ns.at' fun o e => hk L o (fun hm => hLHA (hwr _ hm)) e, fun b o e => hk b o (fun hm => by rw [(hHA _ (hwr _ hm)).2.1] at e; cases e) (F'.keep b o e), F'.above⟩
  have loop : ∀ s₃ : Shared, s₃ = { s₂ with heap := h₁, toks := s₂.toks + ([] : List (Str × Value)).length } →
      codeAny (model prog w) A (.compLoop (.ListComp elt [⟨.Tuple [.Name x px, .Name x₂ px₂] tk tp, iter, [], 0⟩] scope pos) 0 (.ref I) (.ref s₂.heap.objs.size) (compEnvC scope cl H2.objs.size env))
        (RR (.ref s₂.heap.objs.size) H2.objs.size) s₃ := by
    rintro s₃ rfl
    refine LCp.codeAny_compLoop_pair
      (fun k s' => ∃ h' tk i ys m' nw, s' = { s₂ with heap := h', toks := tk } ∧ i ≤ n ∧ k = n + 1 - i ∧ ys.length = i ∧ St i h' ∧ Fr h₀ L h' m ∧ h'.Ns H2.objs.size m' ∧ News h₀ L h' ((s₂.heap.objs.size, lst ys) :: nw) ∧
        (∀ p ∈ nw, p.1 ≠ H2.objs.size ∧ p.1 ≠ s₂.heap.objs.size ∧ p.1 ∉ HA) ∧ (∀ p ∈ keep, p ∈ nw) ∧ Inv i ys nw) ?_ (n + 1)
      ⟨h₁, _, 0, [], _, news, rfl, Nat.zero_le _, rfl, rfl, hst₁, F.keeps old, hns₁, fun p hp => ?_, fun p hp => ⟨(below _ (Heap.lt_size (N p hp).1)).1, (below _ (Heap.lt_size (N p hp).1)).2, off p hp⟩, hkeep, h0⟩
    · rintro k s' ⟨h', tk, i, ys, m', nw, rfl, hi, rfl, hyl, hst', F', hn', N', off', hk', hI⟩
      by_cases hlt : i < n
      · refine W.item i _ _ _ hlt hst' fun T vals h₂ tk₂ hPv _ hT hMid hk₂ => ?_
        obtain ⟨v₁, v₂, rfl⟩ := hpair i vals hPv
        refine W.go _ _ _ i T _ _ _ hMid fun h₄ hst₄ hk₄ => ?_
        have hT₄ : IsTup h₄ T #[v₁, v₂] := by
          obtain ⟨o, ho, r⟩ := hT
          exact ⟨o, hk₄ _ _ (W.apart i T _ hMid) ho, r⟩
        have hn₄ : h₄.Ns H2.objs.size m' := (hn'.at' fun o e => hk₂ _ o (fun hm => hCHA (hwr _ hm)) e).at' fun o e => hk₄ _ o (fun hm => hCHA (hwr _ hm)) e
        refine assign_Tuple_tuple hh hT₄ rfl rfl fun h₅ he => ?_
        have he' : ∀ b o, h₄.get? b = some o → h₅.get? b = some o := fun b o e => he b o (Nat.ne_of_lt (Heap.lt_size e)) e
        refine assignInOrder_cons (wpAny_assign_Name (wpAny_storeName_local (lookup_relabel_local hx) (hn₄.at' fun o e => he' _ o e) (fun h₆ hn₆ hs₆ => ?_) (by simp [compEnvC, relabel, hkind])))
        refine assignInOrder_cons (wpAny_assign_Name (wpAny_storeName_local (lookup_relabel_local hx₂) hn₆ (fun h₃ hn₃ hs₃ => ?_) (by simp [compEnvC, relabel, hkind])))
        refine assignInOrder_nil ?_
        have old3 : ∀ b o, b ≠ H2.objs.size → h₄.get? b = some o → h₃.get? b = some o := fun b o hb e => hs₃.extBut b o hb (hs₆.extBut b o hb (he' b o e))
        have hcf : ∀ b ∈ fp, b ≠ H2.objs.size := fun b hb q => by
          rcases hfp b hb with hb | ⟨o, hb⟩
          · exact hCHA (q ▸ hb)
          · exact (off' _ (hk' _ hb)).1 q
        have hst₃ : St (i + 1) h₃ := W.frame _ _ _ hst₄ fun b hb o e => old3 b o (hcf b hb) e
        obtain ⟨oC, heC, hoC⟩ := ns_obj hn₃
        have F₃ : Fr h₀ L h₃ m := (((fr_wr (fr_wr F' hk₂) hk₄).keeps he').change hs₆ hCL hC₀).change hs₃ hCL hC₀
        have N₃ : News h₀ L h₃ ((H2.objs.size, oC) :: (s₂.heap.objs.size, lst ys) :: (hidL HA h₃ ++ nw)) := fun p hp => by
          rcases List.mem_cons.mp hp with rfl | hp
          · exact ⟨heC, hCL, hC₀⟩
          have keepN : ∀ p, p ∈ (s₂.heap.objs.size, lst ys) :: nw → p.1 ≠ H2.objs.size → p.1 ∉ wr → h₃.get? p.1 = some p.2 ∧ p.1 ≠ L ∧ h₀.get? p.1 = none := fun p hp h1 h2 => ⟨old3 _ _ h1 (hk₄ _ _ h2 (hk₂ _ _ h2 (N' p hp).1)), (N' p hp).2⟩
          rcases List.mem_cons.mp hp with rfl | hp
          · exact keepN _ (.head _) hDC (fun hm => hDHA (hwr _ hm))
          rcases List.mem_append.mp hp with hp | hp
          · obtain ⟨b, hb, rfl⟩ := List.mem_map.mp hp
            obtain ⟨o, ho⟩ := hex _ _ hst₃ b hb
            exact ⟨by rw [ho]; rfl, (hHA b hb).1, (hHA b hb).2.1⟩
          · exact keepN p (.tail _ hp) (off' p hp).1 (fun hm => (off' p hp).2.2 (hwr _ hm))
        refine wpAny_mono (turn i ys nw v₁ v₂ H2.objs.size oC s₂.heap.objs.size _ h₃ _ _ hlt hI hPv hoC (by simp [hxx]) (by simp) F₃ N₃ (Ne.symm hDC) off' hk') (fun y s₄ h₄ => ?_) fun _ _ e => e
        obtain ⟨h₇, tk₇, nw₇, rfl, F₇, N₇, off₇, hk₇, hI₇⟩ := h₄
        have zC := (N₇ (H2.objs.size, oC) List.mem_cons_self).1
        have zD := (N₇ (s₂.heap.objs.size, lst ys) (List.mem_cons_of_mem _ List.mem_cons_self)).1
        have hst₇ : St (i + 1) h₇ := W.frame _ _ _ hst₃ fun b hb o e => by
          rcases hfp b hb with hb | ⟨ok, hb⟩
          · have := (N₇ (b, (h₃.get? b).getD emptyDict) (.tail _ (.tail _ (List.mem_append_left _ (List.mem_map.mpr ⟨b, hb, rfl⟩))))).1
            rw [e] at this
            exact this
          · have h1 := (N₃ (b, ok) (.tail _ (.tail _ (List.mem_append_right _ (hk' _ hb))))).1
            rw [e] at h1
            cases h1
            exact (N₇ (b, _) (.tail _ (.tail _ (List.mem_append_right _ (hk₇ _ hb))))).1
        refine append_at (hsz := by show ys.toArray.size ≤ sizeLine; rw [List.size_toArray, hyl]; exact Nat.le_trans hi hsz) zD fun h₅ hs₅ hD₅ => ?_
        refine ⟨n + 1 - (i + 1), by omega, h₅, tk₇, i + 1, ys ++ [y], _, nw₇, rfl, hlt, rfl, by rw [List.length_append, List.length_singleton, hyl], W.frame _ _ _ hst₇ fun b hb o e => hs₅.extBut b o (fun q => ?_) e, F₇.change hs₅ hDL hD₀,
          (hoC.ns zC).sameBut hs₅ (Ne.symm hDC), fun p hp => ?_, off₇, hk₇, hI₇⟩
        · rcases hfp b hb with hb | ⟨o, hb⟩
          · exact hDHA (q ▸ hb)
          · exact (off₇ _ (hk₇ _ hb)).2.1 q
        · rcases List.mem_cons.mp hp with rfl | hp
          · exact ⟨hD₅.trans (congrArg some (lst_snoc ys y)), hDL, hD₀⟩
          · have z := N₇ p (.tail _ (.tail _ (List.mem_append_right _ hp)))
            exact ⟨hs₅.extBut _ _ (off₇ p hp).2.1 z.1, z.2⟩
      · obtain rfl : i = n := Nat.le_antisymm hi (Nat.not_lt.mp hlt)
        refine W.done _ _ _ hst' fun h₂ tk₂ hk₂ => ?_
        exact hRR _ _ h₂ tk₂ _ ys nw (fr_wr F' hk₂) (fun p hp => ⟨hk₂ _ _ (fun hm => by
          rcases List.mem_cons.mp hp with rfl | hp
          · exact hDHA (hwr _ hm)
          · exact (off' p hp).2.2 (hwr _ hm)) (N' p hp).1, (N' p hp).2⟩) (fun p hp => (off' p hp).2.1) (hn'.at' fun o e => hk₂ _ o (fun hm => hCHA (hwr _ hm)) e) hC₀ hD₀ hCL hDL (Ne.symm hDC) (fun p hp => (off' p hp).1) (fin _ _ hI)
    · rcases List.mem_cons.mp hp with rfl | hp
      · exact ⟨hacc, hDL, hD₀⟩
      · exact ⟨old _ _ (N p hp).1, (N p hp).2⟩
  exact codeAny_compStart_list (loop _ rfl) (W.self 0 _ _ _ hst₁ (loop _ rfl))
/-- what the iterable of a comprehension over zip comes to -/
noncomputable def SrcZ (prog : Program) (w : World) (A : Around) (h₀ : Heap) (L : Addr) (m : Str → Option Value) (env : Env) (elt : Expr) (x x₂ : Str) (scope : Scope) (cl : List (Str × Addr)) (Fin : Shared → List Value → List (Addr × Obj) → Prop) (xv : Value) (s₁ : Shared) : Prop :=
  ∃ z TI TO i1 i2 l1 l2 xs ys o1 o2 news, xv = .ref z ∧ A.handled = none ∧ Fr h₀ L s₁.heap m ∧ News h₀ L s₁.heap news ∧ ZipApart z TI TO i1 i2 l1 l2 ∧
    (IsZip s₁.heap z TI TO .none ∧ IsPair s₁.heap TI (.ref i1) (.ref i2) ∧ (∃ a b, IsPair s₁.heap TO a b) ∧ s₁.heap.IsListIter i1 l1 0 ∧ s₁.heap.IsListIter i2 l2 0 ∧ s₁.heap.IsList l1 xs ∧ s₁.heap.IsList l2 ys) ∧ (l1, o1) ∈ news ∧ (l2, o2) ∈ news ∧
    (∀ b ∈ [z, TI, TO, i1, i2], b ≠ L ∧ h₀.get? b = none ∧ b < s₁.heap.objs.size ∧ ∀ p ∈ news, p.1 ≠ b) ∧ min xs.size ys.size ≤ sizeLine ∧
    ∃ Inv : Nat → List Value → List (Addr × Obj) → Prop, Inv 0 [] news ∧ TurnZ prog w A h₀ L m env elt x x₂ scope cl s₁ [z, TI, TO, i1, i2] [(l1, o1), (l2, o2)] (fun i vals => ∃ x y, xs[i]? = some x ∧ ys[i]? = some y ∧ vals = #[x, y]) (min xs.size ys.size) Inv ∧
      (∀ rs nw, Inv (min xs.size ys.size) rs nw → Fin s₁ rs nw)
theorem ListComp_Z {px px₂ tp : Pos} {tk} {pos : Pos} {Q : Value → Shared → Prop} (F₀ : Fr h₀ L s.heap m)
    (hclos : closureFor scope env = pure cl) (hcell : ∀ y ∈ scope.names, y.2 ≠ .cell) (hkind : scope.kind = .function)
    (hnames : ∀ y ∈ scope.names, y.2 = .local → scope.names.lookup y.1 = some .local) (hx : scope.names.lookup x = some .local) (hx₂ : scope.names.lookup x₂ = some .local) (hxx : x ≠ x₂)
    (h : wpAny (model prog w) A (eval iter env) (SrcZ prog w A h₀ L m env elt x x₂ scope cl (fun s₂ ys nw => ∀ D h tk, Fr h₀ L h m → News h₀ L h ((D, lst ys) :: nw) → (∀ p ∈ nw, p.1 ≠ D) → Q (.ref D) { s₂ with heap := h, toks := tk })) E s)
    (hs : ∀ x, foldedSetIterable iter env x = pure x := by intro _; rfl) :
    wpAny (model prog w) A (eval (.ListComp elt [⟨.Tuple [.Name x px, .Name x₂ px₂] tk tp, iter, [], 0⟩] scope pos) env) Q E s := by
  rw [eval_ListComp]
  refine wpAny_comprehension_free (use := none) rfl hs hclos hkind hnames (wpAny_mono h (fun xv s₁ h₁ => ?_) fun _ _ e => e)
  obtain ⟨z, TI, TO, i1, i2, l1, l2, xs, ys, o1, o2, news, rfl, hh, F, N, D, hst, hm1, hm2, hHA, hsz, Inv, h0, turn, fin⟩ := h₁
  refine wpAny_pyIter_zip hst.1 ?_
  refine block_Z (WalksT.zip2 hh z TI TO i1 i2 l1 l2 D xs ys) (fun i vals ⟨a, b, _, _, e⟩ => ⟨a, b, e⟩) hsz (HA := [z, TI, TO, i1, i2]) (keep := [(l1, o1), (l2, o2)]) (fun b hb => ⟨(hHA b hb).1, (hHA b hb).2.1, (hHA b hb).2.2.1⟩) ?_ ?_ ?_ hcell hkind hx hx₂ hxx hh hst F N
    (fun p hp hm => (hHA _ hm).2.2.2 p hp rfl) ?_ h0 turn fin ?_
  · intro b hb
    simp only [List.mem_cons, List.not_mem_nil, or_false] at hb ⊢
    rcases hb with rfl | rfl | rfl | rfl <;> simp
  · intro b hb
    simp only [List.mem_cons, List.not_mem_nil, or_false] at hb
    rcases hb with rfl | rfl | rfl | rfl | rfl | rfl | rfl
    · exact .inl (by simp)
    · exact .inl (by simp)
    · exact .inl (by simp)
    · exact .inl (by simp)
    · exact .inl (by simp)
    · exact .inr ⟨o1, by simp⟩
    · exact .inr ⟨o2, by simp⟩
  · rintro i h ⟨hz, hTI, ⟨a, b, hTO⟩, ⟨o1, ho1, _⟩, ⟨o2, ho2, _⟩, _⟩ b hb
    simp only [List.mem_cons, List.not_mem_nil, or_false] at hb
    rcases hb with rfl | rfl | rfl | rfl | rfl
    · exact ⟨_, hz⟩
    · exact ⟨_, hTI⟩
    · exact ⟨_, hTO⟩
    · exact ⟨_, ho1⟩
    · exact ⟨_, ho2⟩
  · intro p hp
    simp only [List.mem_cons, List.not_mem_nil, or_false] at hp
    rcases hp with rfl | rfl
    · exact hm1
    · exact hm2
  · intro D C h tk m' ys news' F' N' o1 hn hC₀ hD₀ hCL hDL hCD offC fin
    refine ⟨m', hn, fun h'' hs'' => fin D h'' tk (F'.change hs'' hCL hC₀) (fun p hp => ?_) o1⟩
    refine ⟨hs''.extBut _ _ ?_ (N' p hp).1, (N' p hp).2⟩
    rcases List.mem_cons.mp hp with rfl | hp
    · exact Ne.symm hCD
    · exact offC p hp
end
end
/- Chars -/
theorem freshChars : True := by
  w_top off
  trivial
noncomputable def inC (c : Nat) : Bool := (Builtin.Str.occurrences (PySem.Str.ofString "(),: \t\n") ⟨#[c]⟩ 0 (PySem.Str.length (PySem.Str.ofString "(),: \t\n")) 1).isEmpty
noncomputable def cutT (t : PySem.Str) : List (PySem.Str × Int) := (toks inC puC t.cps.toList 0).map encW ++ [(PySem.Str.ofString "", (t.length : Int))]
theorem puC_eq (c : Nat) : puC c = decide (c ∈ [40, 41, 44, 58]) := by
  have h := StrLaws.found_one (PySem.Str.ofString "(),:") c
  have e : (PySem.Str.ofString "(),:").cps.toList = [40, 41, 44, 58] := by decide +kernel
  rw [e] at h
  exact h
theorem inC_eq (c : Nat) : inC c = !decide (c ∈ [40, 41, 44, 58, 32, 9, 10]) := by
  have h := StrLaws.found_one (PySem.Str.ofString "(),: \t\n") c
  have e : (PySem.Str.ofString "(),: \t\n").cps.toList = [40, 41, 44, 58, 32, 9, 10] := by decide +kernel
  rw [e] at h
  rw [← h]
  unfold inC
  rw [Bool.not_not]
theorem in_pu {c : Nat} (h : inC c = true) : puC c = false := by
  rw [inC_eq] at h
  rw [puC_eq]
  simp only [Bool.not_eq_true', decide_eq_false_iff_not, List.mem_cons, List.not_mem_nil, or_false, not_or] at h ⊢
  exact ⟨h.1, h.2.1, h.2.2.1, h.2.2.2.1⟩
noncomputable abbrev encP (p : Int × List Nat) : Int × PySem.Str := (p.1, ⟨p.2.toArray⟩)
theorem pieces_perm (a : List Nat) : ((toks inC puC a 0).map swp).Perm (pieces inC puC a 0) := by
  have := toks_pieces (op := inC) (pu := puC) (a := a) (fun k _ h => in_pu h) a.length 0 (by omega) (Nat.zero_le _) (.inl rfl)
  simpa using this
theorem pieces_rise (a : List Nat) : ((toks inC puC a 0).map swp).Pairwise (fun x y => x.1 < y.1) := by
  rw [List.pairwise_map]
  exact (toks_rise (op := inC) (pu := puC) a.length a 0 (Nat.le_refl _)).2
theorem pieces_nodup (a : List Nat) : (((pieces inC puC a 0).map encP).map (·.1)).Nodup := by
  rw [List.map_map]
  have e : ((fun x : Int × PySem.Str => x.1) ∘ encP) = (fun x : Int × List Nat => x.1) := rfl
  rw [e]
  refine ((pieces_perm a).map (fun x : Int × List Nat => x.1)).nodup_iff.mp ?_
  have h := pieces_rise a
  have h2 : (((toks inC puC a 0).map swp).map (fun x => x.1)).Pairwise (fun x y : Int => x < y) := by
    rw [List.pairwise_map]
    exact h
  exact h2.imp (fun h => Int.ne_of_lt h)
theorem pieces_len (a : List Nat) : (pieces inC puC a 0).length ≤ a.length := by
  rw [← (pieces_perm a).length_eq, List.length_map]
  exact (toks_bound (op := inC) (pu := puC) _ a 0 (Nat.le_refl _)).1
theorem pieces_sorted {a : List Nat} {ps : List (Int × PySem.Str)} (h : ps.Perm ((pieces inC puC a 0).map encP)) (hr : ps.Pairwise (fun x y => x.1 < y.1)) : ps.map (fun p => (p.2, p.1)) = (toks inC puC a 0).map encW := by
  have e := rise_unique (h.trans ((pieces_perm a).map encP).symm) hr (by
    rw [List.pairwise_map]
    exact pieces_rise a)
  rw [e, List.map_map, List.map_map]
  rfl
theorem toks_congr {op op' pu : Nat → Bool} : ∀ (n : Nat) (l : List Nat) (p : Int), l.length ≤ n → (∀ c ∈ l, op c = op' c) → toks op pu l p = toks op' pu l p := by
  intro n
  induction n with
  | zero =>
    intro l p h _
    cases l with
    | nil => rw [toks, toks]
    | cons c r => exact absurd h (Nat.not_succ_le_zero _)
  | succ n ih =>
    intro l p h hc
    cases l with
    | nil => rw [toks, toks]
    | cons c r =>
      have hr : r.length ≤ n := Nat.le_of_succ_le_succ h
      have h1 := drop_len (op := op') r
      have e1 : ∀ (l : List Nat), (∀ c ∈ l, op c = op' c) → l.takeWhile op = l.takeWhile op' ∧ l.dropWhile op = l.dropWhile op' := by
        intro l
        induction l with
        | nil => intro _; exact ⟨rfl, rfl⟩
        | cons x l ih2 =>
          intro hl
          have hx := hl x (.head _)
          have ⟨a, b⟩ := ih2 fun c hc => hl c (.tail _ hc)
          rw [List.takeWhile_cons, List.takeWhile_cons, List.dropWhile_cons, List.dropWhile_cons, hx, a, b]
          exact ⟨rfl, rfl⟩
      rw [toks, toks, hc c (.head _), (e1 (c :: r) hc).1, (e1 r fun x hx => hc x (.tail _ hx)).2]
      rw [ih (r.dropWhile op') _ (Nat.le_trans h1 hr) (fun x hx => hc x (.tail _ ((List.dropWhile_sublist _).mem hx)))]
      rw [ih r (p + 1) hr (fun x hx => hc x (.tail _ hx))]
theorem cut_words {t : PySem.Str} (h : ∀ c ∈ t.cps.toList, inC c = opC c) : cutT t = wordsT t := by
  unfold cutT wordsT
  rw [toks_congr _ t.cps.toList 0 (Nat.le_refl _) h]
/- Cut -/
theorem freshCut : True := by
  w_top off
  trivial
noncomputable def filtR (p : Nat → Bool) (i : Nat) : List Int := ((List.range i).filter p).map Int.ofNat
theorem filtR_no {p : Nat → Bool} {i : Nat} (h : p i = false) : filtR p (i + 1) = filtR p i := by
  unfold filtR
  rw [List.range_succ, List.filter_append, List.filter_cons, if_neg (by rw [h]; decide)]
  simp
theorem filtR_yes {p : Nat → Bool} {i : Nat} (h : p i = true) : filtR p (i + 1) = filtR p i ++ [(i : Int)] := by
  unfold filtR
  rw [List.range_succ, List.filter_append, List.filter_cons, if_pos h]
  simp
theorem filtR_len (p : Nat → Bool) (i : Nat) : (filtR p i).length ≤ i := by
  unfold filtR
  rw [List.length_map]
  exact Nat.le_trans (List.length_filter_le _ _) (by simp)
theorem filtR_mem {p : Nat → Bool} {n : Nat} {x : Int} (h : x ∈ filtR p n) : ∃ k : Nat, x = k ∧ k < n := by
  obtain ⟨k, hk, rfl⟩ := List.mem_map.mp h
  exact ⟨k, rfl, List.mem_range.mp (List.mem_filter.mp hk).1⟩
theorem ints_yes {ys : List Value} {p : Nat → Bool} {i : Nat} {t : Tok} (h : IntsAre ys (filtR p i)) (hp : p i = true) : IntsAre (ys ++ [.int (i : Int) t]) (filtR p (i + 1)) := by
  rw [filtR_yes hp]
  exact h.append (.cons _ _ .nil)
theorem ints_no {ys : List Value} {p : Nat → Bool} {i : Nat} (h : IntsAre ys (filtR p i)) (hp : p i = false) : IntsAre ys (filtR p (i + 1)) := by
  rw [filtR_no hp]
  exact h
local macro_rules | `(tactic| walk_at "compareOp NotIn int ref") => `(tactic| (k_here; k_dflt (refine' notin_list_ints ?l ?i ?_; (case l => exact News.isList (by k_asm) (by k_mem)); (case i => with_reducible assumption))))
theorem add_lists' {prog : Program} {w : World} {A : Around} {E : Value → Shared → Prop} {s : Shared} {h₀ : Heap} {L : Addr} {m : PySem.Str → Option Value} {news : List (Addr × Obj)} {l b : Addr} {vs ws : List Value} {Q : Value → Shared → Prop} (F : Fr h₀ L s.heap m) (N : News h₀ L s.heap news) (hl : s.heap.IsList l vs.toArray) (hb : s.heap.IsList b ws.toArray) (hsz : vs.length + ws.length ≤ 1000)
    (h : ∀ D h', Fr h₀ L h' m → News h₀ L h' ((D, PySem.W.listOf (vs ++ ws).toArray 0) :: news) → (∀ p ∈ news, p.1 ≠ D) → Q (.ref D) { s with heap := h' }) : wpAny (model prog w) A (binaryOp .Add (.ref l) (.ref b)) Q E s :=
  add_lists F N hl hb (fun h' F' N' => h _ h' F' N' fun p hp => Nat.ne_of_lt (Heap.lt_size (N p hp).1)) (by rw [sizeLine_eq]; omega)
structure Box (P : Prop) : Prop where
  out : P
theorem box_post {α : Type} {M : Model} {A : Around} {t : Sem α} {Q : α → Shared → Prop} {E : Value → Shared → Prop} {s : Shared} (h : wpAny M A t (fun v s' => Box (Q v s')) E s) : wpAny M A t Q E s := wpAny_mono h (fun _ _ b => b.out) fun _ _ e => e
theorem ints_at {x : Value} : ∀ {vs : List Value} {ns : List Int} {i : Nat}, IntsAre vs ns → vs.toArray[i]? = some x → ∃ n t, x = .int n t ∧ ns[i]? = some n
  | _, _, i, .nil, h => by simp at h
  | _, _, 0, .cons n t _, h => by
    simp at h
    exact ⟨n, t, h.symm, rfl⟩
  | _, _, i + 1, .cons n t r, h => by
    obtain ⟨m, u, a, b⟩ := ints_at (i := i) r (by simpa using h)
    exact ⟨m, u, a, by simpa using b⟩
theorem tk_yes {α : Type} {l : List α} {p : α → Bool} {i : Nat} {x : α} (h : l[i]? = some x) (hp : p x = true) : (l.take (i + 1)).filter p = (l.take i).filter p ++ [x] := by
  rw [List.take_succ, h, List.filter_append]
  simp [hp]
theorem tk_no {α : Type} {l : List α} {p : α → Bool} {i : Nat} {x : α} (h : l[i]? = some x) (hp : p x = false) : (l.take (i + 1)).filter p = (l.take i).filter p := by
  rw [List.take_succ, h, List.filter_append]
  simp [hp]
section
variable {w : World} {A₀ : Around} {s : Shared} {base h₀ : Heap} {outer : List Env} {L a : Addr} {m : PySem.Str → Option Value} {mean : ExcName → Option Value} {mg mb : PySem.Str → Option Value} {Q : Value → Shared → Prop} {E : Value → Shared → Prop} {dp un : Nat} {gd : Option (List Code)} {cn : PySem.Str} {cs : Scope} {ccd : Value} {cll : List (PySem.Str × Addr)}
set_option maxHeartbeats 8000000 in
theorem cut_ok {t : PySem.Str} {xt : Tok}
    (C : Cx w s.heap A₀ base h₀ cs outer L m mean mg mb) (hlen : t.length ≤ 60) (hd : dp + 20 < recursionLimit) (hu : un + 100 < cLine)
    (hQ : ∀ r vs n tl h' tk', Kp [] s.heap h' → (∀ p ∈ (r, PySem.W.listOf (vs : List Value).toArray n) :: tl, h'.get? p.1 = some p.2 ∧ s.heap.get? p.1 = none) → (∀ p ∈ tl, p.1 ≠ r) → TupAll tl vs (cutT t) → Q (.ref r) { s with heap := h', toks := tk' }) :
    wpAny (model Challenge.rw_rg0116_01.row.prog w) (ktrTop dp un gd cn cs L a ccd cll outer) (call (.ref 274) [.str t xt]) Q E s := by
  have N : News h₀ L s.heap [] := News.nil
  refine wpAny_call ?_
  with_unfolding_all refine' enterC (binds := [("text", .str t xt)]) ?kC ?kN ?k6 ?k7 ?k8 ?k9 ?kB ?kD ?_ ?c2 ?c3 ?c4 ?eb ?es
  k_dflt ((case kC => assumption); (case kN => assumption); (case k6 => k_is); (case eb => (conv => lhs; whnf)); (case es => (conv => lhs; whnf)); (case k7 => k_is); (case k8 => first | exact room0 (by assumption) | omega); (case k9 => exact BindsTo.of_eq rfl); (case kB => exact rfl); (case kD => decide +kernel); (case c2 => exact rfl); (case c3 => exact rfl); (case c4 => exact rfl))
  intro g' L' h' tk' cells' hg' hs' F' N' Y' B' X' T' l1 hcn
  clear l1
  obtain ⟨oc2, oc1, hE', d1', d2'⟩ := CellsAre.two Y'
  subst hE'
  clear Y'
  simp only [List.cons_append, List.nil_append, List.append_nil] at N'
  dsimp only
  k_fold
  (repeat' (first | (k_unfold; (try dsimp only)) | ((fail_if_success (with_reducible first | refine stop_at [76] (by decide) ?_ | refine stop_st (by decide) ?_ | refine stop_bl (by decide) ?_ | refine stop_lc ?_ | refine stop_jp ?_ | show LCg.CompSrc _ _ _ _ _ _ _ _ _ _ _ _ _ _ | show LCt.CompSrcT _ _ _ _ _ _ _ _ _ _ _ _ _ _ _)); (first | ((with_reducible refine stop_cr ?_); first | (k_here; (with_reducible show wpAny _ _ (call (Value.ref 269) _) _ _ _); k_dflt (refine' hewn_use ?B ?F ?X ?T ?hk ?N ?ho ?U ?hcl ?hi ?hl ?h0 ?h1 ?m0 ?m1 ?d ?u ?_; (case B => k_asm); (case F => k_asm); (case X => k_asm); (case T => k_asm); (case hk => exact rfl); (case N => k_asm); (case ho => assumption); (case U => k_updF); (case hcl => first | (with_reducible assumption) | exact isl_keep (by assumption) (Fr.keep (by k_asm)) | exact News.isList (by k_asm) (by k_mem)); (case hi => assumption); (case hl => assumption); (case h0 => omega); (case h1 => omega); (case m0 => first | decide | omega); (case m1 => first | decide | omega); (case d => first | exact room2 (by assumption) (by exact rfl) | exact room1 (by assumption) (by exact rfl) | omega | (dsimp only [ktrTop]; omega)); (case u => first | exact room2 (by assumption) (by exact rfl) | exact room1 (by assumption) (by exact rfl) | omega | (dsimp only [ktrTop]; omega))); intro _ _ _ _ _ _ _ _ _ _ _; ktr_rel)) | walk1 | (dsimp only; first | walk1 | (k_unfold; (try dsimp only)))))))
  have d1 : oc1.data = .cell (some (.str t xt)) := d2'
  have d2 : oc2.data = .cell none := d1'
  clear d1' d2'
  refine LCt.Assign_ListComp_T (F₀ := F') (by rfl) (by with_unfolding_all rfl) (by with_unfolding_all rfl) (by decide) (by rfl) (by decide) (by rfl) (by rfl) (by rfl) ?_
  (repeat' (first | (k_unfold; (try dsimp only)) | ((fail_if_success (with_reducible first | refine stop_at [76] (by decide) ?_ | refine stop_st (by decide) ?_ | refine stop_bl (by decide) ?_ | refine stop_lc ?_ | refine stop_jp ?_ | show LCg.CompSrc _ _ _ _ _ _ _ _ _ _ _ _ _ _ | show LCt.CompSrcT _ _ _ _ _ _ _ _ _ _ _ _ _ _ _)); (first | ((with_reducible refine stop_cr ?_); first | (k_here; (with_reducible show wpAny _ _ (call (Value.ref 269) _) _ _ _); k_dflt (refine' hewn_use ?B ?F ?X ?T ?hk ?N ?ho ?U ?hcl ?hi ?hl ?h0 ?h1 ?m0 ?m1 ?d ?u ?_; (case B => k_asm); (case F => k_asm); (case X => k_asm); (case T => k_asm); (case hk => exact rfl); (case N => k_asm); (case ho => assumption); (case U => k_updF); (case hcl => first | (with_reducible assumption) | exact isl_keep (by assumption) (Fr.keep (by k_asm)) | exact News.isList (by k_asm) (by k_mem)); (case hi => assumption); (case hl => assumption); (case h0 => omega); (case h1 => omega); (case m0 => first | decide | omega); (case m1 => first | decide | omega); (case d => first | exact room2 (by assumption) (by exact rfl) | exact room1 (by assumption) (by exact rfl) | omega | (dsimp only [ktrTop]; omega)); (case u => first | exact room2 (by assumption) (by exact rfl) | exact room1 (by assumption) (by exact rfl) | omega | (dsimp only [ktrTop]; omega))); intro _ _ _ _ _ _ _ _ _ _ _; ktr_rel)) | walk1 | (dsimp only; first | walk1 | (k_unfold; (try dsimp only)))))))
  rename IsRange _ _ _ _ _ _ _ _ => hR
  rename Fr g' _ _ _ => F1
  rename News g' _ _ _ => N1
  refine' srcT_range (Inv := fun i ys nw => nw = [(L' + 1 + 1, oc2), (L' + 1, oc1)] ∧ IntsAre ys (filtR (fun k => puC (sgn t k)) i)) rfl F1 N1 hR ?b0 ?b1 ⟨rfl, .nil⟩ ?turn ?fin
  (case b0 => omega)
  (case b1 => omega)
  case turn =>
    intro g i ys nw v I oI C5 oC Dl m₂ h tk E' hi2 hI _ hP hC hx F N8 off ne
    obtain ⟨rfl, hys⟩ := hI
    obtain ⟨ti, rfl⟩ := hP
    have hit : i < t.length := by omega
    have hit' : (i : Int) < t.length := by omega
    (repeat' (first | (k_unfold; (try dsimp only)) | ((fail_if_success (with_reducible first | refine stop_at [76] (by decide) ?_ | refine stop_st (by decide) ?_ | refine stop_bl (by decide) ?_ | refine stop_lc ?_ | refine stop_jp ?_ | show LCg.CompSrc _ _ _ _ _ _ _ _ _ _ _ _ _ _ | show LCt.CompSrcT _ _ _ _ _ _ _ _ _ _ _ _ _ _ _)); (first | ((with_reducible refine stop_cr ?_); first | (k_here; (with_reducible show wpAny _ _ (call (Value.ref 269) _) _ _ _); k_dflt (refine' hewn_use ?B ?F ?X ?T ?hk ?N ?ho ?U ?hcl ?hi ?hl ?h0 ?h1 ?m0 ?m1 ?d ?u ?_; (case B => k_asm); (case F => k_asm); (case X => k_asm); (case T => k_asm); (case hk => exact rfl); (case N => k_asm); (case ho => assumption); (case U => k_updF); (case hcl => first | (with_reducible assumption) | exact isl_keep (by assumption) (Fr.keep (by k_asm)) | exact News.isList (by k_asm) (by k_mem)); (case hi => assumption); (case hl => assumption); (case h0 => omega); (case h1 => omega); (case m0 => first | decide | omega); (case m1 => first | decide | omega); (case d => first | exact room2 (by assumption) (by exact rfl) | exact room1 (by assumption) (by exact rfl) | omega | (dsimp only [ktrTop]; omega)); (case u => first | exact room2 (by assumption) (by exact rfl) | exact room1 (by assumption) (by exact rfl) | omega | (dsimp only [ktrTop]; omega))); intro _ _ _ _ _ _ _ _ _ _ _; ktr_rel)) | walk1 | (dsimp only; first | walk1 | (k_unfold; (try dsimp only)))))))
    · rename List.isEmpty _ = true => hp
      rw [item_sgn hit] at hp
      exact LCg.CompEnd.intro F N8 _ (fun _ h => h) off trivial ⟨rfl, ints_no hys (by unfold puC; rw [hp]; rfl)⟩
    · rename List.isEmpty _ = false => hp
      rw [item_sgn hit] at hp
      exact LCg.CompEnd.intro F N8 _ (fun _ h => h) off trivial ⟨rfl, ints_yes hys (by unfold puC; rw [hp]; rfl)⟩
  case fin =>
  intro g al nw hI
  obtain ⟨rfl, hal⟩ := hI
  unfold LCg.FinA
  intro D1 h2 tk2 F2 N2 ho2
  clear N1 hR
  dsimp only
  have n11 : D1 ≠ L' + 1 + 1 := Ne.symm ho2.1
  have n12 : D1 ≠ L' + 1 := Ne.symm ho2.2.1
  (repeat' (first | (k_unfold; (try dsimp only)) | ((fail_if_success (with_reducible first | refine stop_at [76] (by decide) ?_ | refine stop_st (by decide) ?_ | refine stop_bl (by decide) ?_ | refine stop_lc ?_ | refine stop_jp ?_ | show LCg.CompSrc _ _ _ _ _ _ _ _ _ _ _ _ _ _ | show LCt.CompSrcT _ _ _ _ _ _ _ _ _ _ _ _ _ _ _)); (first | ((with_reducible refine stop_cr ?_); first | (k_here; (with_reducible show wpAny _ _ (call (Value.ref 269) _) _ _ _); k_dflt (refine' hewn_use ?B ?F ?X ?T ?hk ?N ?ho ?U ?hcl ?hi ?hl ?h0 ?h1 ?m0 ?m1 ?d ?u ?_; (case B => k_asm); (case F => k_asm); (case X => k_asm); (case T => k_asm); (case hk => exact rfl); (case N => k_asm); (case ho => assumption); (case U => k_updF); (case hcl => first | (with_reducible assumption) | exact isl_keep (by assumption) (Fr.keep (by k_asm)) | exact News.isList (by k_asm) (by k_mem)); (case hi => assumption); (case hl => assumption); (case h0 => omega); (case h1 => omega); (case m0 => first | decide | omega); (case m1 => first | decide | omega); (case d => first | exact room2 (by assumption) (by exact rfl) | exact room1 (by assumption) (by exact rfl) | omega | (dsimp only [ktrTop]; omega)); (case u => first | exact room2 (by assumption) (by exact rfl) | exact room1 (by assumption) (by exact rfl) | omega | (dsimp only [ktrTop]; omega))); intro _ _ _ _ _ _ _ _ _ _ _; ktr_rel)) | walk1 | (dsimp only; first | walk1 | (k_unfold; (try dsimp only)))))))
  rename Fr g' _ _ _ => F3
  rename News g' _ _ _ => N3
  refine wpAny_Assign_Name ?_ (by with_unfolding_all rfl)
  refine LCt.ListComp_T (F₀ := F3) (by with_unfolding_all rfl) (by decide) (by rfl) (by decide) (by rfl) ?_
  (repeat' (first | (k_unfold; (try dsimp only)) | ((fail_if_success (with_reducible first | refine stop_at [76] (by decide) ?_ | refine stop_st (by decide) ?_ | refine stop_bl (by decide) ?_ | refine stop_lc ?_ | refine stop_jp ?_ | show LCg.CompSrc _ _ _ _ _ _ _ _ _ _ _ _ _ _ | show LCt.CompSrcT _ _ _ _ _ _ _ _ _ _ _ _ _ _ _)); (first | ((with_reducible refine stop_cr ?_); first | (k_here; (with_reducible show wpAny _ _ (call (Value.ref 269) _) _ _ _); k_dflt (refine' hewn_use ?B ?F ?X ?T ?hk ?N ?ho ?U ?hcl ?hi ?hl ?h0 ?h1 ?m0 ?m1 ?d ?u ?_; (case B => k_asm); (case F => k_asm); (case X => k_asm); (case T => k_asm); (case hk => exact rfl); (case N => k_asm); (case ho => assumption); (case U => k_updF); (case hcl => first | (with_reducible assumption) | exact isl_keep (by assumption) (Fr.keep (by k_asm)) | exact News.isList (by k_asm) (by k_mem)); (case hi => assumption); (case hl => assumption); (case h0 => omega); (case h1 => omega); (case m0 => first | decide | omega); (case m1 => first | decide | omega); (case d => first | exact room2 (by assumption) (by exact rfl) | exact room1 (by assumption) (by exact rfl) | omega | (dsimp only [ktrTop]; omega)); (case u => first | exact room2 (by assumption) (by exact rfl) | exact room1 (by assumption) (by exact rfl) | omega | (dsimp only [ktrTop]; omega))); intro _ _ _ _ _ _ _ _ _ _ _; ktr_rel)) | walk1 | (dsimp only; first | walk1 | (k_unfold; (try dsimp only)))))))
  rename IsRange _ _ _ _ _ _ _ _ => hR
  rename Fr g' _ _ _ => F4
  rename News g' _ _ _ => N4
  refine' srcT_range (Inv := fun i ys nw => nw = [(D1, LCg.lst al), (L' + 1 + 1, oc2), (L' + 1, oc1)] ∧ IntsAre ys (filtR (fun k => inC (sgn t k)) i)) rfl F4 N4 hR ?b0 ?b1 ⟨rfl, .nil⟩ ?turn ?fin
  (case b0 => omega)
  (case b1 => omega)
  case turn =>
    intro g i ys nw v I oI C5 oC Dl m₂ h tk E' hi2 hI _ hP hC hx F N8 off ne
    obtain ⟨rfl, hys⟩ := hI
    obtain ⟨ti, rfl⟩ := hP
    have hit : i < t.length := by omega
    have hit' : (i : Int) < t.length := by omega
    (repeat' (first | (k_unfold; (try dsimp only)) | ((fail_if_success (with_reducible first | refine stop_at [76] (by decide) ?_ | refine stop_st (by decide) ?_ | refine stop_bl (by decide) ?_ | refine stop_lc ?_ | refine stop_jp ?_ | show LCg.CompSrc _ _ _ _ _ _ _ _ _ _ _ _ _ _ | show LCt.CompSrcT _ _ _ _ _ _ _ _ _ _ _ _ _ _ _)); (first | ((with_reducible refine stop_cr ?_); first | (k_here; (with_reducible show wpAny _ _ (call (Value.ref 269) _) _ _ _); k_dflt (refine' hewn_use ?B ?F ?X ?T ?hk ?N ?ho ?U ?hcl ?hi ?hl ?h0 ?h1 ?m0 ?m1 ?d ?u ?_; (case B => k_asm); (case F => k_asm); (case X => k_asm); (case T => k_asm); (case hk => exact rfl); (case N => k_asm); (case ho => assumption); (case U => k_updF); (case hcl => first | (with_reducible assumption) | exact isl_keep (by assumption) (Fr.keep (by k_asm)) | exact News.isList (by k_asm) (by k_mem)); (case hi => assumption); (case hl => assumption); (case h0 => omega); (case h1 => omega); (case m0 => first | decide | omega); (case m1 => first | decide | omega); (case d => first | exact room2 (by assumption) (by exact rfl) | exact room1 (by assumption) (by exact rfl) | omega | (dsimp only [ktrTop]; omega)); (case u => first | exact room2 (by assumption) (by exact rfl) | exact room1 (by assumption) (by exact rfl) | omega | (dsimp only [ktrTop]; omega))); intro _ _ _ _ _ _ _ _ _ _ _; ktr_rel)) | walk1 | (dsimp only; first | walk1 | (k_unfold; (try dsimp only)))))))
    · rename List.isEmpty _ = true => hp
      rw [item_sgn hit] at hp
      exact LCg.CompEnd.intro F N8 _ (fun _ h => h) off trivial ⟨rfl, ints_yes hys hp⟩
    · rename List.isEmpty _ = false => hp
      rw [item_sgn hit] at hp
      exact LCg.CompEnd.intro F N8 _ (fun _ h => h) off trivial ⟨rfl, ints_no hys hp⟩
  case fin =>
  intro g2 inn nw hI
  obtain ⟨rfl, hin⟩ := hI
  unfold LCg.FinE
  intro D2 h3 tk3 F5 N5 ho3
  clear N4 hR
  have n21 : D2 ≠ D1 := Ne.symm ho3.1
  have n22 : D2 ≠ L' + 1 + 1 := Ne.symm ho3.2.1
  have n23 : D2 ≠ L' + 1 := Ne.symm ho3.2.2.1
  dsimp only
  (repeat' (first | (k_unfold; (try dsimp only)) | ((fail_if_success (with_reducible first | refine stop_at [76] (by decide) ?_ | refine stop_st (by decide) ?_ | refine stop_bl (by decide) ?_ | refine stop_lc ?_ | refine stop_jp ?_ | show LCg.CompSrc _ _ _ _ _ _ _ _ _ _ _ _ _ _ | show LCt.CompSrcT _ _ _ _ _ _ _ _ _ _ _ _ _ _ _)); (first | ((with_reducible refine stop_cr ?_); first | (k_here; (with_reducible show wpAny _ _ (call (Value.ref 269) _) _ _ _); k_dflt (refine' hewn_use ?B ?F ?X ?T ?hk ?N ?ho ?U ?hcl ?hi ?hl ?h0 ?h1 ?m0 ?m1 ?d ?u ?_; (case B => k_asm); (case F => k_asm); (case X => k_asm); (case T => k_asm); (case hk => exact rfl); (case N => k_asm); (case ho => assumption); (case U => k_updF); (case hcl => first | (with_reducible assumption) | exact isl_keep (by assumption) (Fr.keep (by k_asm)) | exact News.isList (by k_asm) (by k_mem)); (case hi => assumption); (case hl => assumption); (case h0 => omega); (case h1 => omega); (case m0 => first | decide | omega); (case m1 => first | decide | omega); (case d => first | exact room2 (by assumption) (by exact rfl) | exact room1 (by assumption) (by exact rfl) | omega | (dsimp only [ktrTop]; omega)); (case u => first | exact room2 (by assumption) (by exact rfl) | exact room1 (by assumption) (by exact rfl) | omega | (dsimp only [ktrTop]; omega))); intro _ _ _ _ _ _ _ _ _ _ _; ktr_rel)) | walk1 | (dsimp only; first | walk1 | (k_unfold; (try dsimp only)))))))
  rename Fr g' _ _ _ => F6
  rename News g' _ _ _ => N6a
  rename Obj.data _ = Data.cell (some (Value.ref D2)) => dca
  obtain ⟨oc3, dc, N6⟩ : ∃ (oc3 : Obj), oc3.data = .cell (some (.ref D2)) ∧ News g' L' _ [(D2, LCg.lst inn), (D1, LCg.lst al), (L' + 1 + 1, oc3), (L' + 1, oc1)] := ⟨_, dca, N6a⟩
  clear dca N6a d2
  have hNn : (t.length : Int).toNat = t.length := by omega
  rw [hNn] at hin hal
  have hIl := hin.length
  have hIb := filtR_len (fun k => inC (sgn t k)) t.length
  have hAl := hal.length
  have hAb := filtR_len (fun k => puC (sgn t k)) t.length
  refine LCt.Assign_ListComp_T (F₀ := F6) (by rfl) (by with_unfolding_all rfl) (by with_unfolding_all rfl) (by decide) (by rfl) (by decide) (by rfl) (by rfl) (by rfl) ?_
  generalize hinns : filtR (fun k => inC (sgn t k)) t.length = inns at hin hIl hIb
  (repeat' (first | (k_unfold; (try dsimp only)) | ((fail_if_success (with_reducible first | refine stop_at [76] (by decide) ?_ | refine stop_st (by decide) ?_ | refine stop_bl (by decide) ?_ | refine stop_lc ?_ | refine stop_jp ?_ | show LCg.CompSrc _ _ _ _ _ _ _ _ _ _ _ _ _ _ | show LCt.CompSrcT _ _ _ _ _ _ _ _ _ _ _ _ _ _ _)); (first | ((with_reducible refine stop_cr ?_); first | (k_here; (with_reducible show wpAny _ _ (call (Value.ref 269) _) _ _ _); k_dflt (refine' hewn_use ?B ?F ?X ?T ?hk ?N ?ho ?U ?hcl ?hi ?hl ?h0 ?h1 ?m0 ?m1 ?d ?u ?_; (case B => k_asm); (case F => k_asm); (case X => k_asm); (case T => k_asm); (case hk => exact rfl); (case N => k_asm); (case ho => assumption); (case U => k_updF); (case hcl => first | (with_reducible assumption) | exact isl_keep (by assumption) (Fr.keep (by k_asm)) | exact News.isList (by k_asm) (by k_mem)); (case hi => assumption); (case hl => assumption); (case h0 => omega); (case h1 => omega); (case m0 => first | decide | omega); (case m1 => first | decide | omega); (case d => first | exact room2 (by assumption) (by exact rfl) | exact room1 (by assumption) (by exact rfl) | omega | (dsimp only [ktrTop]; omega)); (case u => first | exact room2 (by assumption) (by exact rfl) | exact room1 (by assumption) (by exact rfl) | omega | (dsimp only [ktrTop]; omega))); intro _ _ _ _ _ _ _ _ _ _ _; ktr_rel)) | walk1 | (dsimp only; first | walk1 | (k_unfold; (try dsimp only)))))))
  rename Fr g' _ _ _ => F7
  rename News g' _ _ _ => N7
  refine' srcT_list (Inv := fun i ys nw => nw = [(D2, LCg.lst inn), (D1, LCg.lst al), (L' + 1 + 1, oc3), (L' + 1, oc1)] ∧ IntsAre ys ((inns.take i).filter fun x => !(inns.any (· == x - 1)))) rfl F7 N7 (by k_dflt k_mem) ?sz ⟨rfl, .nil⟩ ?turn ?fin
  (case sz => rw [sizeLine_eq, List.size_toArray]; omega)
  case turn =>
    intro g i ys nw v I oI C5 oC Dl m₂ h tk E' hi2 hI hS hP hC hx F N8 off ne
    obtain ⟨rfl, hys⟩ := hI
    obtain ⟨x, tx, rfl, hxi⟩ := ints_at hin hP
    (repeat' (first | (k_unfold; (try dsimp only)) | ((fail_if_success (with_reducible first | refine stop_at [76] (by decide) ?_ | refine stop_st (by decide) ?_ | refine stop_bl (by decide) ?_ | refine stop_lc ?_ | refine stop_jp ?_ | show LCg.CompSrc _ _ _ _ _ _ _ _ _ _ _ _ _ _ | show LCt.CompSrcT _ _ _ _ _ _ _ _ _ _ _ _ _ _ _)); (first | ((with_reducible refine stop_cr ?_); first | (k_here; (with_reducible show wpAny _ _ (call (Value.ref 269) _) _ _ _); k_dflt (refine' hewn_use ?B ?F ?X ?T ?hk ?N ?ho ?U ?hcl ?hi ?hl ?h0 ?h1 ?m0 ?m1 ?d ?u ?_; (case B => k_asm); (case F => k_asm); (case X => k_asm); (case T => k_asm); (case hk => exact rfl); (case N => k_asm); (case ho => assumption); (case U => k_updF); (case hcl => first | (with_reducible assumption) | exact isl_keep (by assumption) (Fr.keep (by k_asm)) | exact News.isList (by k_asm) (by k_mem)); (case hi => assumption); (case hl => assumption); (case h0 => omega); (case h1 => omega); (case m0 => first | decide | omega); (case m1 => first | decide | omega); (case d => first | exact room2 (by assumption) (by exact rfl) | exact room1 (by assumption) (by exact rfl) | omega | (dsimp only [ktrTop]; omega)); (case u => first | exact room2 (by assumption) (by exact rfl) | exact room1 (by assumption) (by exact rfl) | omega | (dsimp only [ktrTop]; omega))); intro _ _ _ _ _ _ _ _ _ _ _; ktr_rel)) | walk1 | (dsimp only; first | walk1 | (k_unfold; (try dsimp only)))))))
    · rename List.any _ _ = true => hp
      exact LCg.CompEnd.intro F N8 _ (fun _ h => h) off hS ⟨rfl, by rw [tk_no hxi (by rw [hp]; rfl)]; exact hys⟩
    · rename List.any _ _ = false => hp
      exact LCg.CompEnd.intro F N8 _ (fun _ h => h) off hS ⟨rfl, by rw [tk_yes hxi (by rw [hp]; rfl)]; exact hys.append (.cons _ _ .nil)⟩
  case fin =>
  intro g3 bes nw hI
  obtain ⟨rfl, hbe⟩ := hI
  have hIs : inn.toArray.size = inns.length := by rw [List.size_toArray, hIl]
  rw [hIs, List.take_length] at hbe
  unfold LCg.FinA
  intro D3 h4 tk4 F8 N8 ho4
  clear N7 F7
  dsimp only
  (repeat' (first | (k_unfold; (try dsimp only)) | ((fail_if_success (with_reducible first | refine stop_at [76] (by decide) ?_ | refine stop_st (by decide) ?_ | refine stop_bl (by decide) ?_ | refine stop_lc ?_ | refine stop_jp ?_ | show LCg.CompSrc _ _ _ _ _ _ _ _ _ _ _ _ _ _ | show LCt.CompSrcT _ _ _ _ _ _ _ _ _ _ _ _ _ _ _)); (first | ((with_reducible refine stop_cr ?_); first | (k_here; (with_reducible show wpAny _ _ (call (Value.ref 269) _) _ _ _); k_dflt (refine' hewn_use ?B ?F ?X ?T ?hk ?N ?ho ?U ?hcl ?hi ?hl ?h0 ?h1 ?m0 ?m1 ?d ?u ?_; (case B => k_asm); (case F => k_asm); (case X => k_asm); (case T => k_asm); (case hk => exact rfl); (case N => k_asm); (case ho => assumption); (case U => k_updF); (case hcl => first | (with_reducible assumption) | exact isl_keep (by assumption) (Fr.keep (by k_asm)) | exact News.isList (by k_asm) (by k_mem)); (case hi => assumption); (case hl => assumption); (case h0 => omega); (case h1 => omega); (case m0 => first | decide | omega); (case m1 => first | decide | omega); (case d => first | exact room2 (by assumption) (by exact rfl) | exact room1 (by assumption) (by exact rfl) | omega | (dsimp only [ktrTop]; omega)); (case u => first | exact room2 (by assumption) (by exact rfl) | exact room1 (by assumption) (by exact rfl) | omega | (dsimp only [ktrTop]; omega))); intro _ _ _ _ _ _ _ _ _ _ _; ktr_rel)) | walk1 | (dsimp only; first | walk1 | (k_unfold; (try dsimp only)))))))
  rename Fr g' _ _ _ => F9
  rename News g' _ _ _ => N9
  refine LCt.Assign_ListComp_T (F₀ := F9) (by rfl) (by with_unfolding_all rfl) (by with_unfolding_all rfl) (by decide) (by rfl) (by decide) (by rfl) (by rfl) (by rfl) ?_
  (repeat' (first | (k_unfold; (try dsimp only)) | ((fail_if_success (with_reducible first | refine stop_at [76] (by decide) ?_ | refine stop_st (by decide) ?_ | refine stop_bl (by decide) ?_ | refine stop_lc ?_ | refine stop_jp ?_ | show LCg.CompSrc _ _ _ _ _ _ _ _ _ _ _ _ _ _ | show LCt.CompSrcT _ _ _ _ _ _ _ _ _ _ _ _ _ _ _)); (first | ((with_reducible refine stop_cr ?_); first | (k_here; (with_reducible show wpAny _ _ (call (Value.ref 269) _) _ _ _); k_dflt (refine' hewn_use ?B ?F ?X ?T ?hk ?N ?ho ?U ?hcl ?hi ?hl ?h0 ?h1 ?m0 ?m1 ?d ?u ?_; (case B => k_asm); (case F => k_asm); (case X => k_asm); (case T => k_asm); (case hk => exact rfl); (case N => k_asm); (case ho => assumption); (case U => k_updF); (case hcl => first | (with_reducible assumption) | exact isl_keep (by assumption) (Fr.keep (by k_asm)) | exact News.isList (by k_asm) (by k_mem)); (case hi => assumption); (case hl => assumption); (case h0 => omega); (case h1 => omega); (case m0 => first | decide | omega); (case m1 => first | decide | omega); (case d => first | exact room2 (by assumption) (by exact rfl) | exact room1 (by assumption) (by exact rfl) | omega | (dsimp only [ktrTop]; omega)); (case u => first | exact room2 (by assumption) (by exact rfl) | exact room1 (by assumption) (by exact rfl) | omega | (dsimp only [ktrTop]; omega))); intro _ _ _ _ _ _ _ _ _ _ _; ktr_rel)) | walk1 | (dsimp only; first | walk1 | (k_unfold; (try dsimp only)))))))
  rename Fr g' _ _ _ => F7
  rename News g' _ _ _ => N7
  refine' srcT_list (ax := D2) (its := inn.toArray) (Inv := fun i ys nw => nw = [(D3, LCg.lst bes), (D2, LCg.lst inn), (D1, LCg.lst al), (L' + 1 + 1, oc3), (L' + 1, oc1)] ∧ IntsAre ys (((inns.take i).filter fun x => !(inns.any (· == x + 1))).map (· + 1))) rfl F7 N7 (by k_dflt k_mem) ?sz ⟨rfl, .nil⟩ ?turn ?fin
  (case sz => rw [sizeLine_eq, List.size_toArray]; omega)
  case turn =>
    intro g i ys nw v I oI C5 oC Dl m₂ h tk E' hi2 hI hS hP hC hx F N8 off ne
    obtain ⟨rfl, hys⟩ := hI
    obtain ⟨x, tx, rfl, hxi⟩ := ints_at hin hP
    (repeat' (first | (k_unfold; (try dsimp only)) | ((fail_if_success (with_reducible first | refine stop_at [76] (by decide) ?_ | refine stop_st (by decide) ?_ | refine stop_bl (by decide) ?_ | refine stop_lc ?_ | refine stop_jp ?_ | show LCg.CompSrc _ _ _ _ _ _ _ _ _ _ _ _ _ _ | show LCt.CompSrcT _ _ _ _ _ _ _ _ _ _ _ _ _ _ _)); (first | ((with_reducible refine stop_cr ?_); first | (k_here; (with_reducible show wpAny _ _ (call (Value.ref 269) _) _ _ _); k_dflt (refine' hewn_use ?B ?F ?X ?T ?hk ?N ?ho ?U ?hcl ?hi ?hl ?h0 ?h1 ?m0 ?m1 ?d ?u ?_; (case B => k_asm); (case F => k_asm); (case X => k_asm); (case T => k_asm); (case hk => exact rfl); (case N => k_asm); (case ho => assumption); (case U => k_updF); (case hcl => first | (with_reducible assumption) | exact isl_keep (by assumption) (Fr.keep (by k_asm)) | exact News.isList (by k_asm) (by k_mem)); (case hi => assumption); (case hl => assumption); (case h0 => omega); (case h1 => omega); (case m0 => first | decide | omega); (case m1 => first | decide | omega); (case d => first | exact room2 (by assumption) (by exact rfl) | exact room1 (by assumption) (by exact rfl) | omega | (dsimp only [ktrTop]; omega)); (case u => first | exact room2 (by assumption) (by exact rfl) | exact room1 (by assumption) (by exact rfl) | omega | (dsimp only [ktrTop]; omega))); intro _ _ _ _ _ _ _ _ _ _ _; ktr_rel)) | walk1 | (dsimp only; first | walk1 | (k_unfold; (try dsimp only)))))))
    · rename List.any _ _ = true => hp
      exact LCg.CompEnd.intro F N8 _ (fun _ h => h) off hS ⟨rfl, by rw [tk_no hxi (by rw [hp]; rfl)]; exact hys⟩
    · rename List.any _ _ = false => hp
      exact LCg.CompEnd.intro F N8 _ (fun _ h => h) off hS ⟨rfl, by rw [tk_yes hxi (by rw [hp]; rfl), List.map_append]; exact hys.append (.cons _ _ .nil)⟩
  case fin =>
  intro g4 ens nw hI
  obtain ⟨rfl, hen⟩ := hI
  rw [hIs, List.take_length] at hen
  unfold LCg.FinA
  intro D4 h5 tk5 F10 N10 ho5
  clear N7 F7
  dsimp only
  (repeat' (first | (k_unfold; (try dsimp only)) | ((fail_if_success (with_reducible first | refine stop_at [76] (by decide) ?_ | refine stop_st (by decide) ?_ | refine stop_bl (by decide) ?_ | refine stop_lc ?_ | refine stop_jp ?_ | show LCg.CompSrc _ _ _ _ _ _ _ _ _ _ _ _ _ _ | show LCt.CompSrcT _ _ _ _ _ _ _ _ _ _ _ _ _ _ _)); (first | ((with_reducible refine stop_cr ?_); first | (k_here; (with_reducible show wpAny _ _ (call (Value.ref 269) _) _ _ _); k_dflt (refine' hewn_use ?B ?F ?X ?T ?hk ?N ?ho ?U ?hcl ?hi ?hl ?h0 ?h1 ?m0 ?m1 ?d ?u ?_; (case B => k_asm); (case F => k_asm); (case X => k_asm); (case T => k_asm); (case hk => exact rfl); (case N => k_asm); (case ho => assumption); (case U => k_updF); (case hcl => first | (with_reducible assumption) | exact isl_keep (by assumption) (Fr.keep (by k_asm)) | exact News.isList (by k_asm) (by k_mem)); (case hi => assumption); (case hl => assumption); (case h0 => omega); (case h1 => omega); (case m0 => first | decide | omega); (case m1 => first | decide | omega); (case d => first | exact room2 (by assumption) (by exact rfl) | exact room1 (by assumption) (by exact rfl) | omega | (dsimp only [ktrTop]; omega)); (case u => first | exact room2 (by assumption) (by exact rfl) | exact room1 (by assumption) (by exact rfl) | omega | (dsimp only [ktrTop]; omega))); intro _ _ _ _ _ _ _ _ _ _ _; ktr_rel)) | walk1 | (dsimp only; first | walk1 | (k_unfold; (try dsimp only)))))))
  generalize hals : filtR (fun k => puC (sgn t k)) t.length = als at hal hAl hAb
  have Nc : News g' L' h5 ((D1, LCg.lst al) :: (L' + 1, oc1) :: [(D4, LCg.lst ens), (D3, LCg.lst bes), (L' + 1 + 1, oc3)]) := fun p hp => N10 p ((all_cons (by k_dflt k_mem) (all_cons (by k_dflt k_mem) (all_cons (by k_dflt k_mem) (all_cons (by k_dflt k_mem) (all_cons (by k_dflt k_mem) all_nil))))) p hp)
  have q41 : D4 ≠ D3 := Ne.symm ho5.1
  have q1 : D1 ≠ L' + 1 := n12
  clear N10
  refine LCg.ListComp_U (F₀ := F10) (by with_unfolding_all rfl) (by decide) (by rfl) (by decide) (by rfl) ?_
  (repeat' (first | (k_unfold; (try dsimp only)) | ((fail_if_success (with_reducible first | refine stop_at [76] (by decide) ?_ | refine stop_st (by decide) ?_ | refine stop_bl (by decide) ?_ | refine stop_lc ?_ | refine stop_jp ?_ | show LCg.CompSrc _ _ _ _ _ _ _ _ _ _ _ _ _ _ | show LCt.CompSrcT _ _ _ _ _ _ _ _ _ _ _ _ _ _ _)); (first | ((with_reducible refine stop_cr ?_); first | (k_here; (with_reducible show wpAny _ _ (call (Value.ref 269) _) _ _ _); k_dflt (refine' hewn_use ?B ?F ?X ?T ?hk ?N ?ho ?U ?hcl ?hi ?hl ?h0 ?h1 ?m0 ?m1 ?d ?u ?_; (case B => k_asm); (case F => k_asm); (case X => k_asm); (case T => k_asm); (case hk => exact rfl); (case N => k_asm); (case ho => assumption); (case U => k_updF); (case hcl => first | (with_reducible assumption) | exact isl_keep (by assumption) (Fr.keep (by k_asm)) | exact News.isList (by k_asm) (by k_mem)); (case hi => assumption); (case hl => assumption); (case h0 => omega); (case h1 => omega); (case m0 => first | decide | omega); (case m1 => first | decide | omega); (case d => first | exact room2 (by assumption) (by exact rfl) | exact room1 (by assumption) (by exact rfl) | omega | (dsimp only [ktrTop]; omega)); (case u => first | exact room2 (by assumption) (by exact rfl) | exact room1 (by assumption) (by exact rfl) | omega | (dsimp only [ktrTop]; omega))); intro _ _ _ _ _ _ _ _ _ _ _; ktr_rel)) | walk1 | (dsimp only; first | walk1 | (k_unfold; (try dsimp only)))))))
  rename Fr g' _ _ _ => F11
  rename News g' _ _ _ => N11
  refine' src_list (ax := D1) (its := al.toArray) (Inv := fun i ys nw => ∃ rest, nw = (D1, LCg.lst al) :: (L' + 1, oc1) :: rest ∧ (∀ p ∈ [(D4, LCg.lst ens), (D3, LCg.lst bes), (L' + 1 + 1, oc3)], p ∈ rest) ∧ PrAll rest ys ((als.take i).map fun x => (x, (⟨#[sgn t x.toNat]⟩ : PySem.Str)))) rfl F11 N11 (.head _) ?sz ⟨_, rfl, fun _ h => h, .nil⟩ ?turn ?fin
  (case sz => rw [sizeLine_eq, List.size_toArray]; omega)
  case turn =>
    intro g i ys nw v I oI C5 oC Dl m₂ h tk E' hi2 hI hS hP hC hx F N8 off ne
    obtain ⟨rest, rfl, hbs, hys⟩ := hI
    obtain ⟨x, tx, rfl, hxi⟩ := ints_at hal hP
    obtain ⟨xn, rfl, hxn⟩ : ∃ xn : Nat, x = xn ∧ xn < t.length := filtR_mem (hals ▸ List.mem_of_getElem? hxi)
    have hxn' : (xn : Int) < t.length := by omega
    (repeat' (first | (k_unfold; (try dsimp only)) | ((fail_if_success (with_reducible first | refine stop_at [76] (by decide) ?_ | refine stop_st (by decide) ?_ | refine stop_bl (by decide) ?_ | refine stop_lc ?_ | refine stop_jp ?_ | show LCg.CompSrc _ _ _ _ _ _ _ _ _ _ _ _ _ _ | show LCt.CompSrcT _ _ _ _ _ _ _ _ _ _ _ _ _ _ _)); (first | ((with_reducible refine stop_cr ?_); first | (k_here; (with_reducible show wpAny _ _ (call (Value.ref 269) _) _ _ _); k_dflt (refine' hewn_use ?B ?F ?X ?T ?hk ?N ?ho ?U ?hcl ?hi ?hl ?h0 ?h1 ?m0 ?m1 ?d ?u ?_; (case B => k_asm); (case F => k_asm); (case X => k_asm); (case T => k_asm); (case hk => exact rfl); (case N => k_asm); (case ho => assumption); (case U => k_updF); (case hcl => first | (with_reducible assumption) | exact isl_keep (by assumption) (Fr.keep (by k_asm)) | exact News.isList (by k_asm) (by k_mem)); (case hi => assumption); (case hl => assumption); (case h0 => omega); (case h1 => omega); (case m0 => first | decide | omega); (case m1 => first | decide | omega); (case d => first | exact room2 (by assumption) (by exact rfl) | exact room1 (by assumption) (by exact rfl) | omega | (dsimp only [ktrTop]; omega)); (case u => first | exact room2 (by assumption) (by exact rfl) | exact room1 (by assumption) (by exact rfl) | omega | (dsimp only [ktrTop]; omega))); intro _ _ _ _ _ _ _ _ _ _ _; ktr_rel)) | walk1 | (dsimp only; first | walk1 | (k_unfold; (try dsimp only)))))))
    rename Fr g' _ _ _ => F12
    rename News g' _ _ _ => N12
    rename I < _ ∧ _ => lt12
    rw [item_sgn hxn] at N12
    rename_i T9 h9
    obtain ⟨ta, tb, N12⟩ : ∃ ta tb, News g' L' h9 ((T9, prObj xn ⟨#[sgn t xn]⟩ ta tb) :: (I, oI) :: (C5, oC) :: (Dl, LCg.lst ys) :: (D1, LCg.lst al) :: (L' + 1, oc1) :: rest) := ⟨_, _, N12⟩
    refine LCg.CompEnd.intro F12 N12 ((D1, LCg.lst al) :: (L' + 1, oc1) :: (T9, prObj xn ⟨#[sgn t xn]⟩ ta tb) :: rest) (fun p hp => ?_) ⟨off.1, off.2.1, ⟨Nat.ne_of_gt lt12.1, Nat.ne_of_gt lt12.2.1, Nat.ne_of_gt lt12.2.2.1⟩, off.2.2⟩ (.inr ⟨_, .head _, rfl, _, rfl⟩) ⟨_, rfl, fun p hp => .tail _ (hbs p hp), ?_⟩
    · exact sub_swap [_, _, _, _, _] [_] rest p hp
    · rw [List.take_succ, hxi, List.map_append]
      exact (hys.mono fun p hp => .tail _ hp).append (.cons (.head _) .nil)
  case fin =>
  intro g5 fas nw hI
  obtain ⟨rest, rfl, hbs, hfa⟩ := hI
  have hAs : al.toArray.size = als.length := by rw [List.size_toArray, hAl]
  rw [hAs, List.take_length] at hfa
  unfold LCg.FinE
  intro D5 h6 tk6 F13 N13 ho6
  clear N11
  dsimp only
  have Nz : News g' L' h6 ((D5, LCg.lst fas) :: (L' + 1, oc1) :: (D4, LCg.lst ens) :: (D3, LCg.lst bes) :: rest) := fun p hp => N13 p (sub_tail (sub_skip (sub_tail (all_cons (hbs _ (.head _)) (all_cons (hbs _ (.tail _ (.head _))) (fun _ h => h))))) p hp)
  clear N13
  refine ListComp_Z (F₀ := F13) (by with_unfolding_all rfl) (by decide) (by rfl) (by decide) (by rfl) (by rfl) (by decide) ?_
  (repeat' (first | (k_unfold; (try dsimp only)) | ((fail_if_success (with_reducible first | refine stop_at [76] (by decide) ?_ | refine stop_st (by decide) ?_ | refine stop_bl (by decide) ?_ | refine stop_lc ?_ | refine stop_jp ?_ | show LCg.CompSrc _ _ _ _ _ _ _ _ _ _ _ _ _ _ | show LCt.CompSrcT _ _ _ _ _ _ _ _ _ _ _ _ _ _ _)); (first | ((with_reducible refine stop_cr ?_); first | (k_here; (with_reducible show wpAny _ _ (call (Value.ref 269) _) _ _ _); k_dflt (refine' hewn_use ?B ?F ?X ?T ?hk ?N ?ho ?U ?hcl ?hi ?hl ?h0 ?h1 ?m0 ?m1 ?d ?u ?_; (case B => k_asm); (case F => k_asm); (case X => k_asm); (case T => k_asm); (case hk => exact rfl); (case N => k_asm); (case ho => assumption); (case U => k_updF); (case hcl => first | (with_reducible assumption) | exact isl_keep (by assumption) (Fr.keep (by k_asm)) | exact News.isList (by k_asm) (by k_mem)); (case hi => assumption); (case hl => assumption); (case h0 => omega); (case h1 => omega); (case m0 => first | decide | omega); (case m1 => first | decide | omega); (case d => first | exact room2 (by assumption) (by exact rfl) | exact room1 (by assumption) (by exact rfl) | omega | (dsimp only [ktrTop]; omega)); (case u => first | exact room2 (by assumption) (by exact rfl) | exact room1 (by assumption) (by exact rfl) | omega | (dsimp only [ktrTop]; omega))); intro _ _ _ _ _ _ _ _ _ _ _; ktr_rel)) | walk1 | (dsimp only; first | walk1 | (k_unfold; (try dsimp only)))))))
  rename Fr g' _ _ _ => F14
  rename News g' _ _ _ => N14
  have hbeN : IntsAre bes ((begs inC t.cps.toList 0).map Int.ofNat) := by
    rw [← begs_eq, len_list]
    have e := hbe
    rw [← hinns] at e
    exact e
  have henN : IntsAre ens ((ends inC t.cps.toList 0).map Int.ofNat) := by
    rw [← ends_eq, len_list]
    have e := hen
    rw [← hinns] at e
    exact e
  obtain ⟨hpl, hpp⟩ := pair_ok (op := inC) (a := t.cps.toList) t.cps.toList.length 0 (by omega) (Nat.zero_le _) (.inl rfl)
  have hbl := hbeN.length
  have hel := henN.length
  rw [List.length_map] at hbl hel
  have m3 : (D3, LCg.lst bes) ∈ (D5, LCg.lst fas) :: (L' + 1, oc1) :: (D4, LCg.lst ens) :: (D3, LCg.lst bes) :: rest := by k_dflt k_mem
  have m4 : (D4, LCg.lst ens) ∈ (D5, LCg.lst fas) :: (L' + 1, oc1) :: (D4, LCg.lst ens) :: (D3, LCg.lst bes) :: rest := by k_dflt k_mem
  refine call_zip_2 (N14.isList m3) (N14.isList m4) (fun hz hz1 hTI hTO hi1 hi2 hsz hk => ?_)
  have F15 := F14.keeps hk
  have N15 := N14.grown hk
  have lt6 : ∀ p ∈ (D5, LCg.lst fas) :: (L' + 1, oc1) :: (D4, LCg.lst ens) :: (D3, LCg.lst bes) :: rest, p.1 < h6.objs.size := fun p hp => Heap.lt_size (N14 p hp).1
  have hbn : (begs inC t.cps.toList 0).length ≤ t.length := by
    have h1 := hIb
    have h2 : bes.length ≤ inns.length := by
      rw [hbe.length]
      exact List.length_filter_le _ _
    omega
  refine ⟨_, _, _, _, _, D3, D4, bes.toArray, ens.toArray, LCg.lst bes, LCg.lst ens, _, rfl, rfl, F15, N15, ktu_apart _ _ _ (lt6 _ m3) (lt6 _ m4), ⟨hz1, hTI, ⟨_, _, hTO⟩, hi1, hi2, isl_keep (N14.isList m3) hk, isl_keep (N14.isList m4) hk⟩, m3, m4, ?hHA, ?sz, fun i ys nw => ∃ rest2, nw = (D5, LCg.lst fas) :: (L' + 1, oc1) :: rest2 ∧ (∀ p ∈ rest, p ∈ rest2) ∧ PrAll rest2 ys ((((begs inC t.cps.toList 0).zip (ends inC t.cps.toList 0)).take i).map fun p => ((p.1 : Int), (⟨((t.cps.toList.drop p.1).take (p.2 - p.1)).toArray⟩ : PySem.Str))), ⟨_, rfl, fun p hp => .tail _ (.tail _ hp), .nil⟩, ?turn, ?fin⟩
  case sz => rw [sizeLine_eq, List.size_toArray, List.size_toArray]; omega
  case hHA =>
    intro b hb
    have hLlt : L' < h6.objs.size := F14.ns.lt
    have hb2 : h6.objs.size ≤ b ∧ b < h6.objs.size + 5 := by
      simp only [List.mem_cons, List.not_mem_nil, or_false] at hb
      rcases hb with rfl | rfl | rfl | rfl | rfl <;> exact ⟨by first | exact Nat.le_refl _ | exact Nat.le_add_right _ _, by first | exact Nat.lt_succ_self _ | exact Nat.add_lt_add_left (by decide) _ | exact Nat.lt_add_of_pos_right (by decide)⟩
    refine ⟨fun e => ?_, ?_, ?_, fun p hp e => ?_⟩
    · rw [e] at hb2
      exact absurd hLlt (Nat.not_lt.mpr hb2.1)
    · cases z : g'.get? b with
      | none => rfl
      | some o => exact absurd (Heap.lt_size (F14.keep _ _ z)) (Nat.not_lt.mpr hb2.1)
    · show b < hz.objs.size
      rw [hsz]
      exact hb2.2
    · exact absurd (e ▸ lt6 p hp) (Nat.not_lt.mpr hb2.1)
  case turn =>
    intro i ys nw v₁ v₂ C5 oC Dl m₂ h tk E' hi2 hI hP hC hx hx2 F N8 neCD off hkp
    obtain ⟨rest2, rfl, hrs, hys⟩ := hI
    obtain ⟨x1, y1, hx1, hy1, e12⟩ := hP
    have e1 : v₁ = x1 := Option.some.inj (show some v₁ = some x1 from congrArg (fun a : Array Value => a[0]?) e12)
    have e2 : v₂ = y1 := Option.some.inj (show some v₂ = some y1 from congrArg (fun a : Array Value => a[1]?) e12)
    subst e1 e2
    obtain ⟨bi, tb, rfl, hbi⟩ := ints_at hbeN hx1
    obtain ⟨ei, te, rfl, hei⟩ := ints_at henN hy1
    rw [List.getElem?_map] at hbi hei
    obtain ⟨bn, hbn2, hbe2⟩ := Option.map_eq_some_iff.mp hbi
    obtain ⟨en, hen2, hee2⟩ := Option.map_eq_some_iff.mp hei
    obtain rfl : bi = (bn : Int) := hbe2.symm
    obtain rfl : ei = (en : Int) := hee2.symm
    have hzp : ((begs inC t.cps.toList 0).zip (ends inC t.cps.toList 0))[i]? = some (bn, en) := by
      rw [List.getElem?_zip_eq_some]
      exact ⟨hbn2, hen2⟩
    have hpb := hpp _ (List.mem_of_getElem? hzp)
    rw [len_list] at hpb
    obtain ⟨rest3, hr3⟩ : ∃ r, r = (D5, LCg.lst fas) :: (hidL [h6.objs.size + 4, h6.objs.size + 2, h6.objs.size + 3, h6.objs.size, h6.objs.size + 1] h ++ rest2) := ⟨_, rfl⟩
    have N9 : News g' L' h ((C5, oC) :: (Dl, LCg.lst ys) :: (L' + 1, oc1) :: rest3) := fun p hp => N8 p (by
      rw [hr3] at hp
      exact sub_tail (sub_tail (all_cons (List.mem_append_right _ (.tail _ (.head _))) (all_cons (List.mem_append_right _ (.head _)) (all_app sub_l (sub_lr (sub_skip (sub_skip (fun _ h => h)))))))) p hp)
    clear N8 N14 N15 F15 hz1 hTI hTO hi1 hi2
    have hb1 : (bn : Int) ≤ en := by omega
    have hb2 : (en : Int) ≤ t.length := by omega
    refine box_post ?_
    (repeat' (first | (k_unfold; (try dsimp only)) | ((fail_if_success (with_reducible first | refine stop_at [76] (by decide) ?_ | refine stop_st (by decide) ?_ | refine stop_bl (by decide) ?_ | refine stop_lc ?_ | refine stop_jp ?_ | show LCg.CompSrc _ _ _ _ _ _ _ _ _ _ _ _ _ _ | show LCt.CompSrcT _ _ _ _ _ _ _ _ _ _ _ _ _ _ _)); (first | ((with_reducible refine stop_cr ?_); first | (k_here; (with_reducible show wpAny _ _ (call (Value.ref 269) _) _ _ _); k_dflt (refine' hewn_use ?B ?F ?X ?T ?hk ?N ?ho ?U ?hcl ?hi ?hl ?h0 ?h1 ?m0 ?m1 ?d ?u ?_; (case B => k_asm); (case F => k_asm); (case X => k_asm); (case T => k_asm); (case hk => exact rfl); (case N => k_asm); (case ho => assumption); (case U => k_updF); (case hcl => first | (with_reducible assumption) | exact isl_keep (by assumption) (Fr.keep (by k_asm)) | exact News.isList (by k_asm) (by k_mem)); (case hi => assumption); (case hl => assumption); (case h0 => omega); (case h1 => omega); (case m0 => first | decide | omega); (case m1 => first | decide | omega); (case d => first | exact room2 (by assumption) (by exact rfl) | exact room1 (by assumption) (by exact rfl) | omega | (dsimp only [ktrTop]; omega)); (case u => first | exact room2 (by assumption) (by exact rfl) | exact room1 (by assumption) (by exact rfl) | omega | (dsimp only [ktrTop]; omega))); intro _ _ _ _ _ _ _ _ _ _ _; ktr_rel)) | walk1 | (dsimp only; first | walk1 | (k_unfold; (try dsimp only)))))))
    rename Fr g' _ _ _ => F16
    rename News g' _ _ _ => N16
    rename C5 < _ ∧ _ => lt16
    rename_i tw kw lw T9 h9
    obtain ⟨tb2, te2, N16⟩ : ∃ tb2 te2, News g' L' h9 ((T9, prObj bn (Txt.slice t (some (bn : Int)) (some (en : Int))) tb2 te2) :: (C5, oC) :: (Dl, LCg.lst ys) :: (L' + 1, oc1) :: rest3) := ⟨_, _, N16⟩
    have hlt3 := allLt_mem lt16.2.2.2
    rw [slice_sgn (Nat.le_of_lt hpb.1) hpb.2] at N16
    refine ⟨_, _, (D5, LCg.lst fas) :: (L' + 1, oc1) :: (T9, prObj bn ⟨((t.cps.toList.drop bn).take (en - bn)).toArray⟩ tb2 te2) :: rest2, rfl, F16, fun p hp => N16 p ?_, fun p hp => ?_, ?_, _, rfl, fun p hp => .tail _ (hrs p hp), ?_⟩
    · rw [hr3]
      exact all_cons (.tail _ (.head _)) (all_cons (.tail _ (.tail _ (.head _))) (all_app (sub_lr (k := [_, _, _, _, _]) sub_l) (all_cons (.tail _ (.tail _ (.tail _ (.tail _ (.head _))))) (all_cons (.tail _ (.tail _ (.tail _ (.head _)))) (all_cons (.head _) (sub_lr (k := [_, _, _, _, _]) sub_r)))))) p hp
    · rcases List.mem_cons.mp hp with rfl | hp
      · exact off _ (.head _)
      rcases List.mem_cons.mp hp with rfl | hp
      · exact off _ (.tail _ (.head _))
      rcases List.mem_cons.mp hp with rfl | hp
      · refine ⟨Nat.ne_of_gt lt16.1, Nat.ne_of_gt lt16.2.1, fun hm => ?_⟩
        have := hlt3 (T9, (h.get? T9).getD emptyDict) (by
          rw [hr3]
          exact .tail _ (List.mem_append_left _ (List.mem_map.mpr ⟨T9, hm, rfl⟩)))
        exact absurd this (Nat.lt_irrefl _)
      · exact off p (.tail _ (.tail _ hp))
    · intro p hp
      exact sub_tail (sub_tail (sub_skip (fun _ h => h))) p (hkp p hp)
    · rw [List.take_succ, hzp, List.map_append]
      exact (hys.mono fun p hp => .tail _ hp).append (.cons (.head _) .nil)
  case fin =>
  intro rs nw hI
  obtain ⟨rest2, rfl, hrs, hps⟩ := hI
  intro D6 h7 tk7 F17 N17 ho7
  have hmin : ((begs inC t.cps.toList 0).zip (ends inC t.cps.toList 0)).take (min bes.toArray.size ens.toArray.size) = (begs inC t.cps.toList 0).zip (ends inC t.cps.toList 0) := List.take_of_length_le (by rw [List.length_zip, List.size_toArray, List.size_toArray, hbl, hel]; exact Nat.le_refl _)
  rw [hmin] at hps
  clear F15 N15 hz1 hTI hTO hi1 hi2 N14
  dsimp only
  have hfal : fas.length ≤ 60 := by
    rw [hfa.length, List.length_map]
    omega
  have hrsl : rs.length ≤ 60 := by
    rw [hps.length, List.length_map, List.length_zip]
    omega
  have hal2 : als.map (fun x => (x, (⟨#[sgn t x.toNat]⟩ : PySem.Str))) = ((alones puC t.cps.toList 0).map (fun (k : Nat) => ((k : Int), [cc t.cps.toList k]))).map encP := by
    rw [← hals]
    unfold filtR alones
    rw [filt_zero, len_list, List.map_map, List.map_map]
    rfl
  have hPr : PrAll ((L' + 1, oc1) :: rest2) (fas ++ rs) ((pieces inC puC t.cps.toList 0).map encP) := by
    unfold pieces
    rw [List.map_append, ← hal2]
    refine (hfa.mono fun p hp => .tail _ (hrs p hp)).append ?_
    rw [List.map_map]
    exact hps.mono fun p hp => .tail _ hp
  refine add_lists' F17 N17 (N17.isList (.tail _ (.head _))) (N17.isList (.head _)) (by omega) (fun D7 h8 F18 N18 ne7 => ?_)
  have N19 : News g' L' h8 ((D7, PySem.W.listOf (fas ++ rs).toArray 0) :: (L' + 1, oc1) :: rest2) := fun p hp => N18 p (sub_tail (sub_skip (sub_skip (sub_tail (fun _ h => h)))) p hp)
  have ne8 : ∀ q ∈ (L' + 1, oc1) :: rest2, q.1 ≠ D7 := fun q hq => ne7 q (.tail _ (.tail _ hq))
  clear N18 N17 F17
  dsimp only
  (repeat' (first | (k_unfold; (try dsimp only)) | ((fail_if_success (with_reducible first | refine stop_at [76] (by decide) ?_ | refine stop_st (by decide) ?_ | refine stop_bl (by decide) ?_ | refine stop_lc ?_ | refine stop_jp ?_ | show LCg.CompSrc _ _ _ _ _ _ _ _ _ _ _ _ _ _ | show LCt.CompSrcT _ _ _ _ _ _ _ _ _ _ _ _ _ _ _)); (first | ((with_reducible refine stop_cr ?_); first | (k_here; (with_reducible show wpAny _ _ (call (Value.ref 269) _) _ _ _); k_dflt (refine' hewn_use ?B ?F ?X ?T ?hk ?N ?ho ?U ?hcl ?hi ?hl ?h0 ?h1 ?m0 ?m1 ?d ?u ?_; (case B => k_asm); (case F => k_asm); (case X => k_asm); (case T => k_asm); (case hk => exact rfl); (case N => k_asm); (case ho => assumption); (case U => k_updF); (case hcl => first | (with_reducible assumption) | exact isl_keep (by assumption) (Fr.keep (by k_asm)) | exact News.isList (by k_asm) (by k_mem)); (case hi => assumption); (case hl => assumption); (case h0 => omega); (case h1 => omega); (case m0 => first | decide | omega); (case m1 => first | decide | omega); (case d => first | exact room2 (by assumption) (by exact rfl) | exact room1 (by assumption) (by exact rfl) | omega | (dsimp only [ktrTop]; omega)); (case u => first | exact room2 (by assumption) (by exact rfl) | exact room1 (by assumption) (by exact rfl) | omega | (dsimp only [ktrTop]; omega))); intro _ _ _ _ _ _ _ _ _ _ _; ktr_rel)) | walk1 | (dsimp only; first | walk1 | (k_unfold; (try dsimp only)))))))
  rename Fr g' _ _ _ => F20
  refine LCp.ListComp_P (F₀ := F20) (by with_unfolding_all rfl) (by decide) (by rfl) (by decide) (by rfl) (by rfl) (by decide) ?_
  (repeat' (first | (k_unfold; (try dsimp only)) | ((fail_if_success (with_reducible first | refine stop_at [76] (by decide) ?_ | refine stop_st (by decide) ?_ | refine stop_bl (by decide) ?_ | refine stop_lc ?_ | refine stop_jp ?_ | show LCg.CompSrc _ _ _ _ _ _ _ _ _ _ _ _ _ _ | show LCt.CompSrcT _ _ _ _ _ _ _ _ _ _ _ _ _ _ _)); (first | ((with_reducible refine stop_cr ?_); first | (k_here; (with_reducible show wpAny _ _ (call (Value.ref 269) _) _ _ _); k_dflt (refine' hewn_use ?B ?F ?X ?T ?hk ?N ?ho ?U ?hcl ?hi ?hl ?h0 ?h1 ?m0 ?m1 ?d ?u ?_; (case B => k_asm); (case F => k_asm); (case X => k_asm); (case T => k_asm); (case hk => exact rfl); (case N => k_asm); (case ho => assumption); (case U => k_updF); (case hcl => first | (with_reducible assumption) | exact isl_keep (by assumption) (Fr.keep (by k_asm)) | exact News.isList (by k_asm) (by k_mem)); (case hi => assumption); (case hl => assumption); (case h0 => omega); (case h1 => omega); (case m0 => first | decide | omega); (case m1 => first | decide | omega); (case d => first | exact room2 (by assumption) (by exact rfl) | exact room1 (by assumption) (by exact rfl) | omega | (dsimp only [ktrTop]; omega)); (case u => first | exact room2 (by assumption) (by exact rfl) | exact room1 (by assumption) (by exact rfl) | omega | (dsimp only [ktrTop]; omega))); intro _ _ _ _ _ _ _ _ _ _ _; ktr_rel)) | walk1 | (dsimp only; first | walk1 | (k_unfold; (try dsimp only)))))))
  rename Fr g' _ _ _ => F21
  rename News g' _ _ _ => N21
  refine sorted_use F21 N21 (N21.isList (.head _)) (hPr.mono fun p hp => .tail _ hp) (by rw [List.length_map]; have := pieces_len t.cps.toList; rw [len_list] at this; omega) (pieces_nodup _) (fun D8 c8 h9 tk9 vs8 ps8 F22 N22 ne22 hP8 hpm hps8 => ?_)
  have hpsl : ps8.length ≤ 60 := by
    rw [hpm.length_eq, List.length_map]
    have := pieces_len t.cps.toList
    rw [len_list] at this
    omega
  have hv8 := hP8.length
  refine LCp.SrcLP.ledger (ax := D8) (its := vs8.toArray) rfl F22 (fun p hp => N22 p ?_) (.head _) (by rw [sizeLine_eq, List.size_toArray]; omega) (fun g => rest_P (Inv := fun i ys nw => ∃ rest4, nw = (D8, PySem.W.listOf vs8.toArray c8) :: (L' + 1, oc1) :: rest4 ∧ (∀ p ∈ (D7, PySem.W.listOf (fas ++ rs).toArray 0) :: (L' + 1, oc1) :: rest2, p ∈ (L' + 1, oc1) :: rest4) ∧ TupAll rest4 ys ((ps8.take i).map fun p => (p.2, p.1))) ?turn ?fin _ 0 [] ((D8, PySem.W.listOf vs8.toArray c8) :: (L' + 1, oc1) :: (D7, PySem.W.listOf (fas ++ rs).toArray 0) :: rest2) (Nat.zero_add _) (.inr ⟨_, .head _, rfl, _, rfl⟩) ⟨_, rfl, fun p hp => by simp only [List.mem_cons] at hp ⊢; rcases hp with h | h | h <;> simp [h], .nil⟩)
  · exact sub_tail (sub_swap [_] [_] rest2) p hp
  case turn =>
    intro i ys nw v hi2 hI hS hP
    obtain ⟨rest4, rfl, hrs4, hys⟩ := hI
    have hil : i < ps8.length := by rw [List.size_toArray] at hi2; omega
    obtain ⟨q, t1, t2, hvq, hmq⟩ := hP8.at hil
    have hv : v = .ref q := by
      have h1 : vs8[i]? = some v := by simpa using hP
      have h2 : vs8.getD i .none = v := by rw [List.getD_eq_getElem?_getD, h1]; rfl
      rw [← h2, hvq]
    refine ⟨q, _, _, _, _, hv, .tail _ (hrs4 _ hmq), rfl, rfl, ?_⟩
    intro I oI C5 oC Dl m₂ h tk E' hC hx hx2 F N8 off ne
    have hpi : ps8[i]? = some (ps8.getD i (0, Str.empty)) := by
      rw [List.getD_eq_getElem?_getD, List.getElem?_eq_getElem hil]; rfl
    generalize ps8.getD i (0, Str.empty) = pi at hx hx2 hpi hmq
    (repeat' (first | (k_unfold; (try dsimp only)) | ((fail_if_success (with_reducible first | refine stop_at [76] (by decide) ?_ | refine stop_st (by decide) ?_ | refine stop_bl (by decide) ?_ | refine stop_lc ?_ | refine stop_jp ?_ | show LCg.CompSrc _ _ _ _ _ _ _ _ _ _ _ _ _ _ | show LCt.CompSrcT _ _ _ _ _ _ _ _ _ _ _ _ _ _ _)); (first | ((with_reducible refine stop_cr ?_); first | (k_here; (with_reducible show wpAny _ _ (call (Value.ref 269) _) _ _ _); k_dflt (refine' hewn_use ?B ?F ?X ?T ?hk ?N ?ho ?U ?hcl ?hi ?hl ?h0 ?h1 ?m0 ?m1 ?d ?u ?_; (case B => k_asm); (case F => k_asm); (case X => k_asm); (case T => k_asm); (case hk => exact rfl); (case N => k_asm); (case ho => assumption); (case U => k_updF); (case hcl => first | (with_reducible assumption) | exact isl_keep (by assumption) (Fr.keep (by k_asm)) | exact News.isList (by k_asm) (by k_mem)); (case hi => assumption); (case hl => assumption); (case h0 => omega); (case h1 => omega); (case m0 => first | decide | omega); (case m1 => first | decide | omega); (case d => first | exact room2 (by assumption) (by exact rfl) | exact room1 (by assumption) (by exact rfl) | omega | (dsimp only [ktrTop]; omega)); (case u => first | exact room2 (by assumption) (by exact rfl) | exact room1 (by assumption) (by exact rfl) | omega | (dsimp only [ktrTop]; omega))); intro _ _ _ _ _ _ _ _ _ _ _; ktr_rel)) | walk1 | (dsimp only; first | walk1 | (k_unfold; (try dsimp only)))))))
    rename Fr g' _ _ _ => F24
    rename News g' _ _ _ => N24
    rename I < _ ∧ _ => lt24
    rename_i T9 h9x
    refine LCg.CompEnd.intro F24 N24 ((D8, PySem.W.listOf vs8.toArray c8) :: (L' + 1, oc1) :: (T9, tupObj pi.2 pi.1 t2 t1) :: rest4) (fun p hp => ?_) ⟨off.1, off.2.1, ⟨Nat.ne_of_gt lt24.1, Nat.ne_of_gt lt24.2.1, Nat.ne_of_gt lt24.2.2.1⟩, off.2.2⟩ (.inr ⟨_, .head _, rfl, _, rfl⟩) ⟨_, rfl, fun p hp => ?_, ?_⟩
    · exact sub_swap [_, _, _, _, _] [_] rest4 p hp
    · exact sub_tail (sub_skip (fun _ h => h)) p (hrs4 p hp)
    · rw [List.take_succ, hpi, List.map_append]
      exact (hys.mono fun p hp => .tail _ hp).snoc (.head _)
  case fin =>
  intro os nw hI
  obtain ⟨rest4, rfl, hrs4, hos⟩ := hI
  have htk : ps8.take vs8.toArray.size = ps8 := List.take_of_length_le (by rw [List.size_toArray, hv8]; exact Nat.le_refl _)
  rw [htk, pieces_sorted hpm hps8] at hos
  unfold LCg.FinE
  intro D9 h10 tk10 F25 N25 ho25
  have hol : os.length ≤ 60 := by
    have h1 := hos.length
    rw [List.length_map] at h1
    have := (toks_bound (op := inC) (pu := puC) _ t.cps.toList 0 (Nat.le_refl _)).1
    rw [len_list] at this
    omega
  have N26 : News g' L' h10 ((D9, PySem.W.listOf os.toArray os.length) :: (L' + 1, oc1) :: rest4) := fun p hp => N25 p (sub_tail (sub_skip (sub_tail (fun _ h => h))) p hp)
  clear N25
  dsimp only
  (repeat' (first | (k_unfold; (try dsimp only)) | ((fail_if_success (with_reducible first | refine stop_at [76] (by decide) ?_ | refine stop_st (by decide) ?_ | refine stop_bl (by decide) ?_ | refine stop_lc ?_ | refine stop_jp ?_ | show LCg.CompSrc _ _ _ _ _ _ _ _ _ _ _ _ _ _ | show LCt.CompSrcT _ _ _ _ _ _ _ _ _ _ _ _ _ _ _)); (first | ((with_reducible refine stop_cr ?_); first | (k_here; (with_reducible show wpAny _ _ (call (Value.ref 269) _) _ _ _); k_dflt (refine' hewn_use ?B ?F ?X ?T ?hk ?N ?ho ?U ?hcl ?hi ?hl ?h0 ?h1 ?m0 ?m1 ?d ?u ?_; (case B => k_asm); (case F => k_asm); (case X => k_asm); (case T => k_asm); (case hk => exact rfl); (case N => k_asm); (case ho => assumption); (case U => k_updF); (case hcl => first | (with_reducible assumption) | exact isl_keep (by assumption) (Fr.keep (by k_asm)) | exact News.isList (by k_asm) (by k_mem)); (case hi => assumption); (case hl => assumption); (case h0 => omega); (case h1 => omega); (case m0 => first | decide | omega); (case m1 => first | decide | omega); (case d => first | exact room2 (by assumption) (by exact rfl) | exact room1 (by assumption) (by exact rfl) | omega | (dsimp only [ktrTop]; omega)); (case u => first | exact room2 (by assumption) (by exact rfl) | exact room1 (by assumption) (by exact rfl) | omega | (dsimp only [ktrTop]; omega))); intro _ _ _ _ _ _ _ _ _ _ _; ktr_rel)) | walk1 | (dsimp only; first | walk1 | (k_unfold; (try dsimp only)))))))
  rename Fr g' _ _ _ => F30
  rename News g' _ _ (_ :: (_, PySem.W.listOf _ 0) :: _ :: (_, PySem.W.listOf _ _) :: _) => N30
  rename News g' _ _ ((_, PySem.W.listOf _ 0) :: _ :: (_, PySem.W.listOf _ _) :: _) => N31
  exact words_fin N31 N30 (hos.mono fun p hp => .tail _ hp) (fun b o1 e => hg' b o1 (nomatch ·) e) fun r vs' n' tl' k1 k2 k3 => hQ r vs' n' tl' _ _ (fun b o1 _ e => F30.keep b o1 (hg' b o1 (nomatch ·) e)) k1 k2 k3
end
/- LawU -/
theorem freshLawU : True := by
  w_top off
  trivial
theorem with_toks {α : Type} {M : Model} {A : Around} {t : Sem α} {Q : α → Shared → Prop} {E : Value → Shared → Prop} {s : Shared} (h : wpAny M A t (fun a s' => s.toks ≤ s'.toks → Q a s') E s) : wpAny M A t Q E s :=
  wpAny_mono (wpAny_toks h) (fun _ _ x => x.2 x.1) fun _ _ x => x.2
theorem back_F {g g' h : Heap} {L : Addr} {m : PySem.Str → Option Value} (T : KtsTurn [] g g') (F : Fr g' L h m) : Fr g L h m :=
  ⟨F.ns, fun b o e => F.keep b o (T.other b o e (by simp)), by have := F.above; rw [T.size] at this; exact this⟩
theorem back_N {g g' h : Heap} {L : Addr} {news : List (Addr × Obj)} (T : KtsTurn [] g g') (N : News g' L h news) : News g L h news := fun p hp =>
  ⟨(N p hp).1, (N p hp).2.1, by
    cases z : g.get? p.1 with
    | none => rfl
    | some o => have := T.other _ _ z (by simp); rw [(N p hp).2.2] at this; cases this⟩
theorem new_L {h₀ h h' : Heap} {L : Addr} {m : PySem.Str → Option Value} (F : Fr h₀ L h m) {l : List (Addr × Obj)} (hp : ∀ p ∈ l, h'.get? p.1 = some p.2 ∧ h.get? p.1 = none) : News h₀ L h' l := fun p hm => by
  refine ⟨(hp p hm).1, fun e => ?_, ?_⟩
  · have h1 := (hp p hm).2
    obtain ⟨o, _, _, ho, _⟩ := F.ns
    rw [e, ho] at h1
    cases h1
  · cases z : h₀.get? p.1 with
    | none => rfl
    | some o => have h1 := F.keep _ _ z; rw [(hp p hm).2] at h1; cases h1
section
variable {w : World} {A₀ : Around} {s : Shared} {base h₀ : Heap} {L a : Addr} {m : PySem.Str → Option Value} {mean : ExcName → Option Value} {mg mb : PySem.Str → Option Value} {Q : Value → Shared → Prop} {E : Value → Shared → Prop} {dp un : Nat} {gd : Option (List Code)} {cn : PySem.Str} {cs : Scope} {ccd : Value} {cll : List (PySem.Str × Addr)}
theorem cut_use {t : PySem.Str} {xt : Tok} {news : List (Addr × Obj)} (C : Cx w s.heap A₀ base h₀ cs [] L m mean mg mb) (N : News h₀ L s.heap news) (hlen : t.length ≤ 60) (hd : dp + 20 < recursionLimit) (hu : un + 100 < cLine)
    (h : ∀ r vs n tl h' tk', Fr h₀ L h' m → News h₀ L h' ((r, PySem.W.listOf (vs : List Value).toArray n) :: (news ++ tl)) → TupAll tl vs (cutT t) → Q (.ref r) { s with heap := h', toks := tk' }) :
    wpAny (model Challenge.rw_rg0116_01.row.prog w) (ktrTop dp un gd cn cs L a ccd cll []) (call (.ref 274) [.str t xt]) Q E s := by
  have F : Fr h₀ L s.heap m := C.F
  refine cut_ok C hlen hd hu (fun r vs n tl h' tk' kp hp hoff hT => ?_)
  refine h r vs n tl h' tk' (F.keeps (kp_nil kp)) (fun p hm => ?_) hT
  rcases List.mem_cons.mp hm with rfl | hm
  · exact new_L F hp _ (.head _)
  · rcases List.mem_append.mp hm with hm | hm
    · exact (N.grown (kp_nil kp)) p hm
    · exact new_L F hp p (.tail _ hm)
theorem told_use {t : PySem.Str} {xt : Tok} {news : List (Addr × Obj)} (XB : (Mine.hd.heap_39 w.params).In base) (TB : Top Mine.hd.view_39 (looseW Mine.hd.view_39 []) mean mg mb base)
    (C : Cx w s.heap A₀ base h₀ cs [] L m mean mg mb) (N : News h₀ L s.heap news) (hlen : t.length ≤ 1000) (hd : dp + 40 < recursionLimit) (hu : un + 150 < cLine)
    (hQ : (∀ k, k < t.length → goodC (sgn t k) = true) → ∀ r vs n tl h' tk', Fr h₀ L h' m → News h₀ L h' ((r, PySem.W.listOf (vs : List Value).toArray n) :: (news ++ tl)) → TupAll tl vs (wordsT t) → Q (.ref r) { s with heap := h', toks := tk' })
    (hE : ∀ i : Nat, i < t.length → goodC (sgn t i) = false → (∀ k, k < i → goodC (sgn t k) = true) → ∀ h' tk' ti, Fr h₀ L h' m → News h₀ L h' news → Q (.int i ti) { s with heap := h', toks := tk' }) :
    wpAny (model Challenge.rw_rg0116_01.row.prog w) (ktrTop dp un gd cn cs L a ccd cll []) (call (.ref 281) [.str t xt]) Q E s := by
  have F : Fr h₀ L s.heap m := C.F
  refine told_ok XB TB C hlen hd hu (fun hg r vs n tl h' tk' kp hp hoff hT => ?_) (fun i hi hb hg h' tk' ti U => ?_)
  · refine hQ hg r vs n tl h' tk' (F.keeps (kp_nil kp)) (fun p hm => ?_) hT
    rcases List.mem_cons.mp hm with rfl | hm
    · exact new_L F hp _ (.head _)
    · rcases List.mem_append.mp hm with hm | hm
      · exact (N.grown (kp_nil kp)) p hm
      · exact new_L F hp p (.tail _ hm)
  · obtain ⟨g', KT, F', B', K⟩ := regroundX C.B F U (by simp) (by simp)
    exact hE i hi hb hg h' tk' ti (back_F KT F') (back_N KT fun p hp => have z := K p.1 p.2 (by simp) (N p hp).1 (N p hp).2.1 (N p hp).2.2; ⟨z.1, (N p hp).2.1, z.2⟩)
end
section
variable {prog : Program} {w : World} {A : Around} {E : Value → Shared → Prop} {s : Shared} {env : Env} {h₀ : Heap} {target : Expr} {body : List Stmt} {Q : Flow → Shared → Prop}
theorem turns_list {l : Addr} {vs : List Value} {n : Nat} {m : PySem.Str → Option Value} {news : List (Addr × Obj)} (hh : A.handled = none) (F : Fr h₀ env.locals s.heap m) (N : News h₀ env.locals s.heap news) (hl : (l, PySem.W.listOf vs.toArray n) ∈ news)
    (J : Nat → (PySem.Str → Option Value) → List (Addr × Obj) → Prop) (h0 : J 0 m news)
    (turn : ∀ i v m₁ news₁ h₁ tk₁ own wr, vs[i]? = some v → J i m₁ news₁ → (∀ p ∈ news₁, p.1 ∉ wr) → Fr h₀ env.locals h₁ m₁ → News h₀ env.locals h₁ (own ++ news₁) →
      wpAny (model prog w) A (assign target env v) (fun _ s₃ => wpAny (model prog w) A (execs body env)
        (LoopStepV h₀ env.locals wr own (J (i + 1)) { s with heap := h₁, toks := tk₁ } (fun v s' => Q (.ret v) s') fun s' => Q .next s') E s₃) E { s with heap := h₁, toks := tk₁ })
    (done : ∀ h' tk m' news', Fr h₀ env.locals h' m' → News h₀ env.locals h' news' → J vs.length m' news' → Q .next { s with heap := h', toks := tk }) :
    wpAny (model prog w) A (pyIter (.ref l)) (fun it s₂ => TurnsAt prog w A h₀ env target body Q E it s₂) E s := by
  have hls : s.heap.IsList l vs.toArray := N.isList hl
  have hlt : l < s.heap.objs.size := Heap.lt_size (N _ hl).1
  have hne : l ≠ s.heap.objs.size := Nat.ne_of_lt hlt
  refine wpAny_pyIter_list hls ?_
  refine ⟨s.heap.objs.size, _, _, _, _, _, _, m, news, J, rfl, KTurns.ofWalks (Walks.list hh s.heap.objs.size l hne vs.toArray) (fun i v s Q E st q => letGo_listiter st.1 q), ?_, ?_, ?_, ⟨⟨_, Heap.get?_push_size _ rfl, rfl, rfl⟩, hls.at fun o e => Heap.get?_push_of_some _ e⟩, F.push _, (fun p hp => ⟨Heap.get?_push_of_some _ (N p hp).1, (N p hp).2⟩), h0, ?_, ?_⟩
  · intro hI
    rcases List.mem_cons.mp hI with e | hI
    · exact absurd F.ns.lt (e ▸ Nat.lt_irrefl _)
    · exact (N _ hl).2.1 (List.mem_singleton.mp hI).symm
  · intro b hb
    rw [List.mem_singleton.mp hb]
    exact next_is_new F
  · intro p hp hI
    exact absurd (Heap.lt_size (N p hp).1) ((List.mem_singleton.mp hI) ▸ Nat.lt_irrefl _)
  · intro i v m₁ news₁ h₁ tk₁ own hi hP hJ hoff _ _ _ _ F₁ N₁
    exact turn i v m₁ news₁ h₁ tk₁ own _ (by simpa using hP) hJ hoff F₁ N₁
  · intro h' tk m' news' F' N' _ hJ
    exact done h' tk m' news' F' N' (by simpa using hJ)
theorem turns_tup {l : Addr} {vs : List Value} {n : Nat} {m : PySem.Str → Option Value} {news : List (Addr × Obj)} (hh : A.handled = none) (F : Fr h₀ env.locals s.heap m) (N : News h₀ env.locals s.heap news) (hls : s.heap.IsTuple l vs.toArray) (hl : ∃ o, (l, o) ∈ news)
    (J : Nat → (PySem.Str → Option Value) → List (Addr × Obj) → Prop) (h0 : J 0 m news)
    (turn : ∀ i v m₁ news₁ h₁ tk₁ own wr, vs[i]? = some v → J i m₁ news₁ → (∀ p ∈ news₁, p.1 ∉ wr) → Fr h₀ env.locals h₁ m₁ → News h₀ env.locals h₁ (own ++ news₁) →
      wpAny (model prog w) A (assign target env v) (fun _ s₃ => wpAny (model prog w) A (execs body env)
        (LoopStepV h₀ env.locals wr own (J (i + 1)) { s with heap := h₁, toks := tk₁ } (fun v s' => Q (.ret v) s') fun s' => Q .next s') E s₃) E { s with heap := h₁, toks := tk₁ })
    (done : ∀ h' tk m' news', Fr h₀ env.locals h' m' → News h₀ env.locals h' news' → J vs.length m' news' → Q .next { s with heap := h', toks := tk }) :
    wpAny (model prog w) A (pyIter (.ref l)) (fun it s₂ => TurnsAt prog w A h₀ env target body Q E it s₂) E s := by
  obtain ⟨ol, hl⟩ := hl
  have hlt : l < s.heap.objs.size := Heap.lt_size (N _ hl).1
  have hne : l ≠ s.heap.objs.size := Nat.ne_of_lt hlt
  refine wpAny_pyIter_tuple hls ?_
  refine ⟨s.heap.objs.size, _, _, _, _, _, _, m, news, J, rfl, KTurns.ofWalks (Walks.tuple hh s.heap.objs.size l hne vs.toArray) (fun i v s Q E st q => letGo_tupleiter st.1 q), ?_, ?_, ?_, ⟨⟨_, Heap.get?_push_size _ rfl, rfl, rfl⟩, hls.at fun o e => Heap.get?_push_of_some _ e⟩, F.push _, (fun p hp => ⟨Heap.get?_push_of_some _ (N p hp).1, (N p hp).2⟩), h0, ?_, ?_⟩
  · intro hI
    rcases List.mem_cons.mp hI with e | hI
    · exact absurd F.ns.lt (e ▸ Nat.lt_irrefl _)
    · exact (N _ hl).2.1 (List.mem_singleton.mp hI).symm
  · intro b hb
    rw [List.mem_singleton.mp hb]
    exact next_is_new F
  · intro p hp hI
    exact absurd (Heap.lt_size (N p hp).1) ((List.mem_singleton.mp hI) ▸ Nat.lt_irrefl _)
  · intro i v m₁ news₁ h₁ tk₁ own hi hP hJ hoff _ _ _ _ F₁ N₁
    exact turn i v m₁ news₁ h₁ tk₁ own _ (by simpa using hP) hJ hoff F₁ N₁
  · intro h' tk m' news' F' N' _ hJ
    exact done h' tk m' news' F' N' (by simpa using hJ)
end
noncomputable def swapS (c d : Nat) (x : PySem.Str) : PySem.Str := ⟨(x.cps.toList.map fun k => if k = c then d else k).toArray⟩
noncomputable def strikeS (c : Nat) (x : PySem.Str) : PySem.Str := ⟨(x.cps.toList.filter (· != c)).toArray⟩
theorem map_free (c d : Nat) : ∀ l : List Nat, c ∉ l → l.map (fun k => if k = c then d else k) = l
  | [], _ => rfl
  | k :: r, h => by
    have h1 : ¬ k = c := fun e => h (e ▸ List.mem_cons_self ..)
    have h2 : c ∉ r := fun m => h (List.mem_cons_of_mem _ m)
    rw [List.map_cons, if_neg h1, map_free c d r h2]
theorem map_join (c d : Nat) : ∀ parts : List PySem.Str, (∀ p ∈ parts, c ∉ p.cps.toList) → (Str.join ⟨#[c]⟩ parts).cps.toList.map (fun k => if k = c then d else k) = (Str.join ⟨#[d]⟩ parts).cps.toList
  | [], _ => rfl
  | [p], h => map_free c d _ (h p (List.mem_singleton.mpr rfl))
  | p :: q :: r, h => by
    have ih := map_join c d (q :: r) fun a ha => h a (List.mem_cons_of_mem _ ha)
    show (p ++ ⟨#[c]⟩ ++ Str.join ⟨#[c]⟩ (q :: r)).cps.toList.map (fun k => if k = c then d else k) = (p ++ ⟨#[d]⟩ ++ Str.join ⟨#[d]⟩ (q :: r)).cps.toList
    simp only [Str.cps_append, Array.toList_append, List.map_append]
    rw [ih, map_free c d _ (h p (List.mem_cons_self ..))]
    simp
theorem rep_swap (x : PySem.Str) (c d : Nat) : Txt.replace x ⟨#[c]⟩ ⟨#[d]⟩ = swapS c d x := by
  have h : (Txt.replace x ⟨#[c]⟩ ⟨#[d]⟩).cps.toList = x.cps.toList.map (fun k => if k = c then d else k) := by
    rw [StrLaws.replace_one, ← map_join c d _ (StrLaws.split_free x c), StrLaws.join_split]
  unfold swapS
  rw [← h]
theorem rep_strike (x : PySem.Str) (c : Nat) : Txt.replace x ⟨#[c]⟩ ⟨#[]⟩ = strikeS c x := by
  unfold strikeS
  rw [← replace_strikes]
theorem swap_len (c d : Nat) (x : PySem.Str) : (swapS c d x).length = x.length := by
  show ((x.cps.toList.map fun k => if k = c then d else k).toArray).size = x.length
  rw [List.size_toArray, List.length_map, len_list]
theorem strike_len (c : Nat) (x : PySem.Str) : (strikeS c x).length ≤ x.length := by
  show ((x.cps.toList.filter (· != c)).toArray).size ≤ x.length
  rw [List.size_toArray, ← len_list]
  exact List.length_filter_le _ _
section
variable {prog : Program} {w : World} {A : Around} {E : Value → Shared → Prop} {s : Shared} {x y z : PySem.Str} {t u v : Tok} {Q : Value → Shared → Prop}
theorem swap_use {c d : Nat} (hy : y = ⟨#[c]⟩) (hz : z = ⟨#[d]⟩) (hcd : (y == z) = false) (hu : u ≠ 0) (hv : v ≠ 0) (huv : u ≠ v) (hx : x.length ≤ 1000)
    (hq : ∀ t' k, s.toks ≤ k → Q (.str (swapS c d x) t') { s with toks := k }) : wpAny (model prog w) A (call (.builtin "str.replace") [.str x t, .str y u, .str z v]) Q E s := by
  refine with_toks (SC.replaceW hu hv huv hcd (by omega) (by rw [hz]; exact Nat.le_of_ble_eq_true rfl) fun t' k hk => ?_)
  rw [hy, hz, rep_swap]
  exact hq t' k hk
theorem strike_use {c : Nat} (hy : y = ⟨#[c]⟩) (hz : z = ⟨#[]⟩) (hu : u ≠ 0) (hv : v ≠ 0) (huv : u ≠ v) (hx : x.length ≤ 1000)
    (hq : ∀ t' k, s.toks ≤ k → Q (.str (strikeS c x) t') { s with toks := k }) : wpAny (model prog w) A (call (.builtin "str.replace") [.str x t, .str y u, .str z v]) Q E s := by
  refine with_toks (SC.replaceW hu hv huv ?_ (by omega) (by rw [hz]; exact Nat.zero_le _) fun t' k hk => ?_)
  · rw [hy, hz]
    exact beq_eq_false_iff_ne.mpr fun e => absurd (congrArg (fun x : PySem.Str => x.cps.size) e) (by show ¬ (1 = 0); decide)
  · rw [hy, hz, rep_strike]
    exact hq t' k hk
end
/- Facts -/
theorem freshFacts : True := by
  w_top off
  trivial
noncomputable def lawCodes : List Nat := [97, 98, 63, 49, 45, 61, 62, 33, 39, 102, 103, 48, 122, 81, 58, 40, 41, 44, 58, 32, 9, 10, 32, 91, 125]
noncomputable def lawStr : PySem.Str := "ab?1-=>!'fg0zQ:(),: \t\n [}"
theorem lawItem (rn : Nat) (h : rn < 25) : ∃ n ∈ lawCodes, Txt.item lawStr (rn : Int) = ⟨#[n]⟩ := by
  refine ⟨sgn lawStr rn, ?_, item_sgn (by exact h)⟩
  have : ∀ k < 25, sgn lawStr k ∈ lawCodes := by decide +kernel
  exact this rn h
theorem cat_codes : ∀ {css : List PySem.Str}, (∀ c ∈ css, ∃ n ∈ lawCodes, c = ⟨#[n]⟩) → (cat css).cps.toList.length = css.length ∧ ∀ c ∈ (cat css).cps.toList, c ∈ lawCodes
  | [], _ => ⟨rfl, fun _ h => nomatch h⟩
  | x :: r, h => by
    obtain ⟨n, hn, rfl⟩ := h x (.head _)
    have ih := cat_codes (css := r) fun c hc => h c (.tail _ hc)
    have e : (cat (⟨#[n]⟩ :: r)).cps.toList = n :: (cat r).cps.toList := by
      show (#[n] ++ (cat r).cps).toList = _
      rw [Array.toList_append]
      rfl
    rw [e]
    refine ⟨by simp [ih.1], fun c hc => ?_⟩
    rcases List.mem_cons.mp hc with rfl | hc
    · exact hn
    · exact ih.2 c hc
noncomputable def baC (c : Nat) : Bool := !(Builtin.Str.occurrences (Str.ofString "[}") ⟨#[c]⟩ 0 (Str.length (Str.ofString "[}")) 1).isEmpty
theorem filtR_none {p : Nat → Bool} {n : Nat} (h : ∀ k, k < n → p k = false) : filtR p n = [] := by
  unfold filtR
  rw [List.filter_eq_nil_iff.mpr fun k hk => by simp [h k (List.mem_range.mp hk)]]
  rfl
theorem ints_none {bad : List Value} {p : Nat → Bool} {n : Nat} (hb : IntsAre bad (filtR p n)) (h : ∀ k, k < n → p k = false) : bad = [] := by
  rw [filtR_none h] at hb
  cases hb
  rfl
theorem filtR_first {p : Nat → Bool} {k : Nat} : ∀ {n : Nat}, k < n → p k = true → (∀ j, j < k → p j = false) → ∃ r, filtR p n = (k : Int) :: r
  | 0, h, _, _ => by omega
  | n + 1, h, hp, hn => by
    have e : filtR p (n + 1) = filtR p n ++ (if p n then [(n : Int)] else []) := by
      unfold filtR
      rw [List.range_succ, List.filter_append, List.map_append]
      cases hpn : p n <;> simp [hpn]
    by_cases h2 : k = n
    · subst h2
      rw [e, filtR_none hn, hp]
      exact ⟨[], rfl⟩
    · obtain ⟨r, hr⟩ := filtR_first (n := n) (by omega) hp hn
      rw [e, hr]
      exact ⟨_, rfl⟩
theorem ints_first {bad : List Value} {p : Nat → Bool} {n k : Nat} (hb : IntsAre bad (filtR p n)) (hk : k < n) (hp : p k = true) (hn : ∀ j, j < k → p j = false) : ∃ tb bad', bad = .int (k : Int) tb :: bad' := by
  obtain ⟨r, hr⟩ := filtR_first hk hp hn
  rw [hr] at hb
  cases hb
  exact ⟨_, _, rfl⟩
theorem sgn_mem {t : PySem.Str} {k : Nat} (h : k < t.length) : sgn t k ∈ t.cps.toList := by
  have h' : k < t.cps.toList.length := by rw [len_list]; exact h
  unfold sgn
  rw [List.getD_eq_getElem?_getD, List.getElem?_eq_getElem h', Option.getD_some]
  exact List.getElem_mem h'
theorem sgn_map {t : PySem.Str} {k : Nat} (f : Nat → Nat) (h : k < t.length) : sgn ⟨(t.cps.toList.map f).toArray⟩ k = f (sgn t k) := by
  have h' : k < t.cps.toList.length := by rw [len_list]; exact h
  unfold sgn
  rw [List.getD_eq_getElem?_getD, List.getD_eq_getElem?_getD, List.getElem?_eq_getElem h', Option.getD_some]
  simp only [List.getElem?_map, List.getElem?_eq_getElem h', Option.map_some, Option.getD_some]
noncomputable abbrev flip (c d : Nat) : Nat → Nat := fun k => if k = c then d else k
theorem swap_swap (c d e f : Nat) (t : PySem.Str) : swapS e f (swapS c d t) = ⟨(t.cps.toList.map (fun k => flip e f (flip c d k))).toArray⟩ := by
  unfold swapS
  simp only [List.map_map]
  rfl
theorem law_all (P : Nat → Bool) (h : lawCodes.all P = true) {t : PySem.Str} (ht : ∀ c ∈ t.cps.toList, c ∈ lawCodes) {c : Nat} (hc : c ∈ t.cps.toList) : P c = true := List.all_eq_true.mp h c (ht c hc)
theorem map_id' {l : List Nat} {f : Nat → Nat} (h : ∀ c ∈ l, f c = c) : l.map f = l := by
  conv => rhs; rw [← List.map_id l]
  exact List.map_congr_left h
theorem all_sgn {t : PySem.Str} {p : Nat → Bool} (h : ∀ k, k < t.length → p (sgn t k) = false) : ∀ c ∈ t.cps.toList, p c = false := fun c hc => by
  obtain ⟨k, hk, rfl⟩ := List.mem_iff_getElem.mp hc
  have := h k (by rw [← len_list]; exact hk)
  unfold sgn at this
  rwa [List.getD_eq_getElem?_getD, List.getElem?_eq_getElem hk, Option.getD_some] at this
theorem lawU {text : PySem.Str} (htc : ∀ c ∈ text.cps.toList, c ∈ lawCodes) : ∀ u : PySem.Str, u = text ∨ u = swapS 125 93 (swapS 91 123 text) → u.length = text.length ∧ (∀ k, k < text.length → goodC (sgn u k) = !baC (sgn text k)) ∧ ((∀ k, k < text.length → baC (sgn text k) = false) → wordsT u = cutT text) := by
  have h0 : ∀ c ∈ text.cps.toList, (goodC c == !baC c) = true := fun c hc => law_all (fun c => goodC c == !baC c) (by decide +kernel) htc hc
  have h1 : ∀ c ∈ text.cps.toList, (goodC (flip 125 93 (flip 91 123 c)) == !baC c) = true := fun c hc => law_all (fun c => goodC (flip 125 93 (flip 91 123 c)) == !baC c) (by decide +kernel) htc hc
  have h2 : ∀ c ∈ text.cps.toList, (baC c || inC c == opC c) = true := fun c hc => law_all (fun c => baC c || inC c == opC c) (by decide +kernel) htc hc
  have h3 : ∀ c ∈ text.cps.toList, (baC c || flip 125 93 (flip 91 123 c) == c) = true := fun c hc => law_all (fun c => baC c || flip 125 93 (flip 91 123 c) == c) (by decide +kernel) htc hc
  have hw : (∀ k, k < text.length → baC (sgn text k) = false) → wordsT text = cutT text := fun hb => (cut_words fun c hc => by
    have := h2 c hc
    rw [all_sgn hb c hc, Bool.false_or, beq_iff_eq] at this
    exact this).symm
  rintro u (rfl | rfl)
  · exact ⟨rfl, fun k hk => by simpa using h0 _ (sgn_mem hk), hw⟩
  · refine ⟨(swap_len _ _ _).trans (swap_len _ _ _), fun k hk => ?_, fun hb => ?_⟩
    · rw [swap_swap, sgn_map _ hk]
      simpa using h1 _ (sgn_mem hk)
    · rw [swap_swap, map_id' (fun c hc => by
        have := h3 c hc
        rw [all_sgn hb c hc, Bool.false_or, beq_iff_eq] at this
        exact this)]
      exact hw hb
/-- what the reader reads -/
noncomputable def readT (text : PySem.Str) : PySem.Str := swapS 125 40 (swapS 91 119 text)
theorem readT_len (text : PySem.Str) : (readT text).length = text.length := (swap_len _ _ _).trans (swap_len _ _ _)
theorem readT_mem {text : PySem.Str} {c : Nat} (h : c ∈ (readT text).cps.toList) : ∃ d ∈ text.cps.toList, c = flip 125 40 (flip 91 119 d) := by
  unfold readT at h
  rw [swap_swap] at h
  obtain ⟨d, hd, e⟩ := List.mem_map.mp h
  exact ⟨d, hd, e.symm⟩
theorem readT_good {text : PySem.Str} (htc : ∀ c ∈ text.cps.toList, c ∈ lawCodes) : ∀ k, k < (readT text).length → goodC (sgn (readT text) k) = true := fun k hk => by
  obtain ⟨d, hd, e⟩ := readT_mem (sgn_mem hk)
  rw [e]
  exact law_all (fun c => goodC (flip 125 40 (flip 91 119 c))) (by decide +kernel) htc hd
theorem readT_cut {text : PySem.Str} (htc : ∀ c ∈ text.cps.toList, c ∈ lawCodes) : cutT (readT text) = wordsT (readT text) := cut_words fun c hc => by
  obtain ⟨d, hd, e⟩ := readT_mem hc
  rw [e]
  simpa using law_all (fun c => inC (flip 125 40 (flip 91 119 c)) == opC (flip 125 40 (flip 91 119 c))) (by decide +kernel) htc hd
theorem signs_mk : ∀ l : List Nat, signs ⟨l.toArray⟩ = l.map fun c => (⟨#[c]⟩ : PySem.Str) := fun l => by
  unfold signs
  simp
theorem isOp_of {l : List Nat} (h0 : l ≠ []) (h : ∀ c ∈ l, opC c = true) : isOp ⟨l.toArray⟩ = true := by
  unfold isOp
  have h1 : ((⟨l.toArray⟩ : PySem.Str) != Str.ofString "") = true := by
    rw [bne_iff_ne]
    intro e
    have := congrArg (fun x : PySem.Str => x.cps.toList) e
    exact h0 this
  rw [h1, Bool.true_and, signs_mk, List.filter_eq_nil_iff.mpr]
  · rfl
  · intro a ha
    obtain ⟨c, hc, rfl⟩ := List.mem_map.mp ha
    have := h c hc
    unfold opC at this
    simpa using this
theorem toks_kind {op pu : Nat → Bool} : ∀ (n : Nat) (l : List Nat) (p : Int), l.length ≤ n → ∀ x ∈ toks op pu l p, (∃ c, x.1 = [c] ∧ pu c = true) ∨ (x.1 ≠ [] ∧ ∀ c ∈ x.1, op c = true) := by
  intro n
  induction n with
  | zero =>
    intro l p h
    cases l with
    | nil => rw [toks]; exact fun x hx => nomatch hx
    | cons c r => exact absurd h (Nat.not_succ_le_zero _)
  | succ n ih =>
    intro l p h
    cases l with
    | nil => rw [toks]; exact fun x hx => nomatch hx
    | cons c r =>
      have hr : r.length ≤ n := Nat.le_of_succ_le_succ h
      have h1 := drop_len (op := op) r
      rw [toks]
      split
      · rename_i hop
        intro x hx
        rcases List.mem_cons.mp hx with rfl | hx
        · refine .inr ⟨by rw [List.takeWhile_cons, if_pos hop]; simp, fun c hc => ?_⟩
          exact List.all_eq_true.mp List.all_takeWhile c hc
        · exact ih _ _ (Nat.le_trans h1 hr) x hx
      · split
        · rename_i hpu
          intro x hx
          rcases List.mem_cons.mp hx with rfl | hx
          · exact .inl ⟨c, rfl, hpu⟩
          · exact ih _ _ hr x hx
        · exact ih _ _ hr
theorem word_kind {t : PySem.Str} {x : PySem.Str × Int} (h : x ∈ (toks opC puC t.cps.toList 0).map encW) : x.1 ∈ [("(" : PySem.Str), ")", ",", ":"] ∨ isOp x.1 = true := by
  obtain ⟨y, hy, rfl⟩ := List.mem_map.mp h
  rcases toks_kind _ _ _ (Nat.le_refl _) y hy with ⟨c, hc, hp⟩ | ⟨h0, h1⟩
  · refine .inl ?_
    rw [puC_eq] at hp
    have hp := of_decide_eq_true hp
    show (⟨y.1.toArray⟩ : PySem.Str) ∈ _
    rw [hc]
    simp only [List.mem_cons, List.not_mem_nil, or_false] at hp ⊢
    rcases hp with rfl | rfl | rfl | rfl
    · exact .inl (by decide +kernel)
    · exact .inr (.inl (by decide +kernel))
    · exact .inr (.inr (.inl (by decide +kernel)))
    · exact .inr (.inr (.inr (by decide +kernel)))
  · exact .inr (isOp_of h0 h1)
theorem words_kind {t : PySem.Str} {p : Nat} {wd : PySem.Str} {sp : Int} (h : (wordsT t)[p]? = some (wd, sp)) (hp : p + 1 < (wordsT t).length) : wd ∈ [("(" : PySem.Str), ")", ",", ":"] ∨ isOp wd = true := by
  have hl : (wordsT t).length = ((toks opC puC t.cps.toList 0).map encW).length + 1 := by
    unfold wordsT
    rw [List.length_append, List.length_singleton]
  have h2 : ((toks opC puC t.cps.toList 0).map encW)[p]? = some (wd, sp) := by
    unfold wordsT at h
    rwa [List.getElem?_append_left (by omega)] at h
  exact word_kind (List.mem_of_getElem? h2)
theorem words_last (t : PySem.Str) : (wordsT t)[(wordsT t).length - 1]? = some (Str.ofString "", (t.length : Int)) := by
  unfold wordsT
  rw [List.length_append, List.length_singleton, Nat.add_sub_cancel, List.getElem?_append_right (Nat.le_refl _), Nat.sub_self]
  rfl
theorem words_pos (t : PySem.Str) : 0 < (wordsT t).length := by
  unfold wordsT
  rw [List.length_append, List.length_singleton]
  exact Nat.succ_pos _
theorem nil_noop : isOp (Str.ofString "") = false := by decide +kernel
/-- the signs l ahead of r are read as the words xs -/
noncomputable def Reads' (xs : List (List Nat)) (l r : List Nat) : Prop := ∀ p, ∃ ys p', toks opC puC (l ++ r) p = ys ++ toks opC puC r p' ∧ ys.map (·.1) = xs
theorem Reads'.nil (r : List Nat) : Reads' [] [] r := fun p => ⟨[], p, rfl, rfl⟩
theorem Reads'.app {xs xs' : List (List Nat)} {l l' r : List Nat} (h : Reads' xs l (l' ++ r)) (h' : Reads' xs' l' r) : Reads' (xs ++ xs') (l ++ l') r := fun p => by
  obtain ⟨ys, p1, e1, m1⟩ := h p
  obtain ⟨ys', p2, e2, m2⟩ := h' p1
  refine ⟨ys ++ ys', p2, ?_, by rw [List.map_append, m1, m2]⟩
  rw [List.append_assoc, e1, e2, List.append_assoc]
theorem Reads'.mark {c : Nat} {r : List Nat} (h1 : opC c = false) (h2 : puC c = true) : Reads' [[c]] [c] r := fun p => ⟨[([c], p)], p + 1, by
  show toks opC puC (c :: r) p = _
  rw [toks, if_neg (by rw [h1]; decide), if_pos h2]
  rfl, rfl⟩
theorem Reads'.skip {c : Nat} {r : List Nat} (h1 : opC c = false) (h2 : puC c = false) : Reads' [] [c] r := fun p => ⟨[], p + 1, by
  show toks opC puC (c :: r) p = _
  rw [toks, if_neg (by rw [h1]; decide), if_neg (by rw [h2]; decide)]
  rfl, rfl⟩
theorem Reads'.skips {l r : List Nat} (h1 : ∀ c ∈ l, opC c = false) (h2 : ∀ c ∈ l, puC c = false) : Reads' [] l r := by
  induction l with
  | nil => exact .nil r
  | cons c l ih => exact Reads'.app (l := [c]) (l' := l) (.skip (h1 c (.head _)) (h2 c (.head _))) (ih (fun d hd => h1 d (.tail _ hd)) fun d hd => h2 d (.tail _ hd))
noncomputable def Stops (r : List Nat) : Prop := ∀ c, r.head? = some c → opC c = false
theorem Reads'.run {l r : List Nat} (h0 : l ≠ []) (h : ∀ c ∈ l, opC c = true) (hr : Stops r) : Reads' [l] l r := fun p => by
  obtain ⟨h1, h2⟩ := takeWhile_run (op := opC) h hr
  cases l with
  | nil => exact absurd rfl h0
  | cons c l =>
    refine ⟨[(c :: l, p)], p + (c :: l).length, ?_, rfl⟩
    have hc := h c (.head _)
    rw [List.cons_append] at h1 h2 ⊢
    rw [toks, if_pos hc, h1]
    rw [List.dropWhile_cons_of_pos hc] at h2
    rw [h2]
    rfl
noncomputable abbrev codes (x : PySem.Str) : List Nat := x.cps.toList
theorem codes_app (x y : PySem.Str) : codes (x ++ y) = codes x ++ codes y := by
  show (x ++ y).cps.toList = _
  rw [Str.cps_append, Array.toList_append]
theorem gap_facts {g : PySem.Str} (h : g ∈ gaps) : (∀ c ∈ codes g, opC c = false) ∧ (∀ c ∈ codes g, puC c = false) ∧ codes g ≠ [] ∧ (∀ c ∈ codes g, goodC c = true) := by
  simp only [gaps, List.mem_cons, List.not_mem_nil, or_false] at h
  rcases h with rfl | rfl | rfl
  all_goals exact ⟨by decide +kernel, by decide +kernel, by decide +kernel, by decide +kernel⟩
theorem pad_facts {g : PySem.Str} (h : g ∈ pads) : (∀ c ∈ codes g, opC c = false) ∧ (∀ c ∈ codes g, puC c = false) ∧ (∀ c ∈ codes g, goodC c = true) := by
  simp only [pads, List.mem_cons, List.not_mem_nil, or_false] at h
  rcases h with rfl | rfl
  all_goals exact ⟨by decide +kernel, by decide +kernel, by decide +kernel⟩
theorem leaf_facts {g : PySem.Str} (h : g ∈ leafNames) : (∀ c ∈ codes g, opC c = true) ∧ codes g ≠ [] ∧ isOp g = true ∧ (∀ c ∈ codes g, goodC c = true) := by
  simp only [leafNames, List.mem_cons, List.not_mem_nil, or_false] at h
  rcases h with rfl | rfl | rfl | rfl
  all_goals exact ⟨by decide +kernel, by decide +kernel, by decide +kernel, by decide +kernel⟩
theorem node_facts {g : PySem.Str} (h : g ∈ nodeNames) : (∀ c ∈ codes g, opC c = true) ∧ codes g ≠ [] ∧ isOp g = true ∧ (∀ c ∈ codes g, goodC c = true) := by
  simp only [nodeNames, List.mem_cons, List.not_mem_nil, or_false] at h
  rcases h with rfl | rfl
  all_goals exact ⟨by decide +kernel, by decide +kernel, by decide +kernel, by decide +kernel⟩
theorem stops_app {l r : List Nat} (h0 : l ≠ []) (h : ∀ c ∈ l, opC c = false) : Stops (l ++ r) := fun c hc => by
  cases l with
  | nil => exact absurd rfl h0
  | cons d l =>
    cases hc
    exact h _ (.head _)
noncomputable abbrev nms (l : List PySem.Str) : List (List Nat) := l.map codes
noncomputable def GdL (n : Nat) (ks : List Tm) : Prop := ∀ t ∈ ks, Gd n t
theorem gd_node {n : Nat} {o : PySem.Str} {k : Tm} {ks : List Tm} (h : Gd n (.node o (k :: ks))) : ∃ n', o ∈ nodeNames ∧ GdL n' (k :: ks) := by
  cases h with
  | one ho h => exact ⟨_, ho, fun t ht => by rw [List.mem_singleton.mp ht]; exact h⟩
  | two ho h h' => exact ⟨_, ho, fun t ht => by
      rcases List.mem_cons.mp ht with rfl | ht
      · exact h
      · rw [List.mem_singleton.mp ht]; exact h'⟩
theorem gd_leaf {n : Nat} {o : PySem.Str} (h : Gd n (.node o [])) : o ∈ leafNames := by
  cases h
  assumption
theorem wr_gap {T : Tm} {S : PySem.Str} (h : Wr T S) : ∃ g S', g ∈ gaps ∧ codes S = codes g ++ S' := by
  cases h with
  | leaf hg => exact ⟨_, _, hg, codes_app _ _⟩
  | node hg hp hS => exact ⟨_, _, hg, by rw [codes_app, codes_app, codes_app, codes_app, codes_app, List.append_assoc, List.append_assoc, List.append_assoc, List.append_assoc]⟩
mutual
theorem wr_reads : ∀ {T : Tm} {S : PySem.Str} {n : Nat} {r : List Nat}, Wr T S → Gd n T → Stops r → Reads' (nms T.toks) (codes S) r
  | .node o [], _, _, r, .leaf hg, hG, hr => by
    obtain ⟨g1, g2, g3, _⟩ := gap_facts hg
    obtain ⟨o1, o2, _, _⟩ := leaf_facts (gd_leaf hG)
    rw [codes_app]
    have e : nms (Tm.node o []).toks = [] ++ [codes o] := by simp [Tm.toks]
    rw [e]
    exact .app (.skips g1 g2) (.run o2 o1 hr)
  | .node o (k :: ks), _, _, r, .node hg hp hS, hG, hr => by
    obtain ⟨g1, g2, g3, _⟩ := gap_facts hg
    obtain ⟨p1, p2, _⟩ := pad_facts hp
    obtain ⟨n', ho, hK⟩ := gd_node hG
    obtain ⟨o1, o2, _, _⟩ := node_facts ho
    have e1 : codes ("(" : PySem.Str) = [40] := by decide +kernel
    have e2 : codes (")" : PySem.Str) = [41] := by decide +kernel
    have m1 : opC 40 = false := by decide +kernel
    have m2 : puC 40 = true := by decide +kernel
    have m3 : opC 41 = false := by decide +kernel
    have m4 : puC 41 = true := by decide +kernel
    have e : nms (Tm.node o (k :: ks)).toks = [] ++ ([[40]] ++ ([] ++ ([codes o] ++ (nms (Tm.toksL (k :: ks)) ++ [[41]])))) := by
      simp [Tm.toks, Tm.toksL, e1, e2]
    have hs : Stops ([41] ++ r) := fun c hc => by cases hc; exact m3
    obtain ⟨hL, hst⟩ := wrL_reads hS hK hs
    rw [e, codes_app, codes_app, codes_app, codes_app, codes_app, e1, e2, List.append_assoc, List.append_assoc, List.append_assoc, List.append_assoc]
    refine .app (.skips g1 g2) (.app (.mark m1 m2) (.app (.skips p1 p2) (.app (.run o2 o1 ?_) (.app hL (.mark m3 m4)))))
    rw [List.append_assoc]
    exact hst
theorem wrL_reads : ∀ {ks : List Tm} {S : List PySem.Str} {n : Nat} {r : List Nat}, WrL ks S → GdL n ks → Stops r → Reads' (nms (Tm.toksL ks)) (codes (cat S)) r ∧ Stops (codes (cat S) ++ r)
  | [], _, _, r, .nil, _, hr => ⟨.nil r, hr⟩
  | k :: ks, _, _, r, .cons (s := s) (S := S) hs hS, hK, hr => by
    obtain ⟨ih, st⟩ := wrL_reads hS (fun t ht => hK t (.tail _ ht)) hr
    have h1 := wr_reads hs (hK k (.head _)) st
    have e : codes (cat (s :: S)) = codes s ++ codes (cat S) := codes_app _ _
    have e2 : nms (Tm.toksL (k :: ks)) = nms k.toks ++ nms (Tm.toksL ks) := by simp [Tm.toksL]
    rw [e, e2]
    refine ⟨.app h1 ih, ?_⟩
    obtain ⟨g, S', hg, eS⟩ := wr_gap hs
    obtain ⟨g1, _, g3, _⟩ := gap_facts hg
    rw [eS, List.append_assoc, List.append_assoc]
    exact stops_app g3 g1
end
mutual
theorem wr_good : ∀ {T : Tm} {S : PySem.Str} {n : Nat}, Wr T S → Gd n T → ∀ c ∈ codes S, goodC c = true
  | .node o [], _, _, .leaf hg, hG => fun c hc => by
    rw [codes_app] at hc
    rcases List.mem_append.mp hc with hc | hc
    · exact (gap_facts hg).2.2.2 c hc
    · exact (leaf_facts (gd_leaf hG)).2.2.2 c hc
  | .node o (k :: ks), _, _, .node hg hp hS, hG => fun c hc => by
    obtain ⟨n', ho, hK⟩ := gd_node hG
    have e1 : ∀ c ∈ codes ("(" : PySem.Str), goodC c = true := by decide +kernel
    have e2 : ∀ c ∈ codes (")" : PySem.Str), goodC c = true := by decide +kernel
    simp only [codes_app, List.mem_append] at hc
    rcases hc with ((((hc | hc) | hc) | hc) | hc) | hc
    · exact (gap_facts hg).2.2.2 c hc
    · exact e1 c hc
    · exact (pad_facts hp).2.2 c hc
    · exact (node_facts ho).2.2.2 c hc
    · exact wrL_good hS hK c hc
    · exact e2 c hc
theorem wrL_good : ∀ {ks : List Tm} {S : List PySem.Str} {n : Nat}, WrL ks S → GdL n ks → ∀ c ∈ codes (cat S), goodC c = true
  | [], _, _, .nil, _ => fun c hc => nomatch hc
  | k :: ks, _, _, .cons (s := s) (S := S) hs hS, hK => fun c hc => by
    have e : codes (cat (s :: S)) = codes s ++ codes (cat S) := codes_app _ _
    rw [e] at hc
    rcases List.mem_append.mp hc with hc | hc
    · exact wr_good hs (hK k (.head _)) c hc
    · exact wrL_good hS (fun t ht => hK t (.tail _ ht)) c hc
end
noncomputable def dpB : Nat → Nat
  | 0 => 0
  | n + 1 => 2 * dpB n + 1
theorem gd_ok : ∀ {n : Nat} {T : Tm}, Gd n T → T.ok = true ∧ T.deep ≤ dpB n
  | n, _, .leaf h => ⟨by simp [Tm.ok, Tm.okL, (leaf_facts h).2.2.1], by simp [Tm.deep]⟩
  | n + 1, _, .one ho h => by
    obtain ⟨a, b⟩ := gd_ok h
    refine ⟨by simp [Tm.ok, Tm.okL, (node_facts ho).2.2.1, a], ?_⟩
    simp only [Tm.deep, Tm.deepL, dpB]
    omega
  | n + 1, _, .two ho h h' => by
    obtain ⟨a, b⟩ := gd_ok h
    obtain ⟨a', b'⟩ := gd_ok h'
    refine ⟨by simp [Tm.ok, Tm.okL, (node_facts ho).2.2.1, a, a'], ?_⟩
    simp only [Tm.deep, Tm.deepL, dpB]
    omega
theorem has_of {ws : List (PySem.Str × Int)} : ∀ {l : List PySem.Str} {p : Nat} {rest : List PySem.Str}, (ws.map (·.1)).drop p = l ++ rest → HasAt ws p l
  | [], _, _, _ => trivial
  | x :: l, p, rest, h => by
    have h1 : (ws.map (·.1))[p]? = some x := by
      have := congrArg (fun z => z[0]?) h
      simpa using this
    have h2 : (ws.map (·.1)).drop (p + 1) = l ++ rest := by
      have := congrArg (List.drop 1) h
      rw [List.drop_drop] at this
      simpa using this
    refine ⟨?_, has_of h2⟩
    rw [List.getElem?_map] at h1
    cases hw : ws[p]? with
    | none => rw [hw] at h1; cases h1
    | some y =>
      rw [hw] at h1
      cases h1
      exact ⟨y.2, rfl⟩
/-- the text that the second reader reads -/
noncomputable def lateT (S text : PySem.Str) : PySem.Str := S ++ (" :" : PySem.Str) ++ strikeS 125 (strikeS 91 text)
theorem late_has {T : Tm} {S text : PySem.Str} {n : Nat} (hw : Wr T S) (hg : Gd n T) : HasAt (wordsT (lateT S text)) 0 (T.toks ++ [(":" : PySem.Str)]) := by
  have e1 : codes (" :" : PySem.Str) = [32] ++ [58] := by decide +kernel
  have e3 : codes (":" : PySem.Str) = [58] := by decide +kernel
  have m1 : opC 32 = false := by decide +kernel
  have m2 : puC 32 = false := by decide +kernel
  have m3 : opC 58 = false := by decide +kernel
  have m4 : puC 58 = true := by decide +kernel
  have e : codes (lateT S text) = codes S ++ ([32] ++ [58]) ++ codes (strikeS 125 (strikeS 91 text)) := by
    unfold lateT
    rw [codes_app, codes_app, e1]
  generalize hz : codes (strikeS 125 (strikeS 91 text)) = z at e
  have h1 : Reads' (nms T.toks) (codes S) (([32] ++ [58]) ++ z) := wr_reads hw hg (fun c hc => by cases hc; exact m1)
  have h2 : Reads' ([] ++ [[58]]) ([32] ++ [58]) z := .app (.skip m1 m2) (.mark m3 m4)
  obtain ⟨ys, p', ey, my⟩ := (Reads'.app h1 h2) 0
  refine has_of (rest := (wordsT (lateT S text)).map (·.1) |>.drop (T.toks ++ [(":" : PySem.Str)]).length) ?_
  rw [List.drop_zero]
  have hl : ys.length = (T.toks ++ [(":" : PySem.Str)]).length := by
    have := congrArg List.length my
    simpa using this
  have hy : (ys.map encW).map (·.1) = T.toks ++ [(":" : PySem.Str)] := by
    rw [List.map_map]
    have : (fun x : PySem.Str × Int => x.1) ∘ encW = (fun c : List Nat => (⟨c.toArray⟩ : PySem.Str)) ∘ (fun x : List Nat × Int => x.1) := rfl
    rw [this, ← List.map_map, my]
    rw [List.map_append, List.map_map]
    have h4 : ((fun c : List Nat => (⟨c.toArray⟩ : PySem.Str)) ∘ codes) = id := by
      funext x
      rfl
    rw [h4, List.map_id]
    congr 1
  have hw2 : (wordsT (lateT S text)).map (·.1) = (T.toks ++ [(":" : PySem.Str)]) ++ ((toks opC puC z p').map encW ++ [(Str.ofString "", ((lateT S text).length : Int))]).map (·.1) := by
    unfold wordsT
    rw [show (lateT S text).cps.toList = codes S ++ ([32] ++ [58]) ++ z from e, ey]
    simp only [List.map_append, List.append_assoc]
    rw [hy, List.append_assoc]
  conv => rhs; rw [hw2]
  rw [hw2]
  congr 1
  rw [List.drop_append_of_le_length (Nat.le_refl _), List.drop_length, List.nil_append]
theorem late_good {T : Tm} {S text : PySem.Str} {n : Nat} (htc : ∀ c ∈ text.cps.toList, c ∈ lawCodes) (hw : Wr T S) (hg : Gd n T) : ∀ k, k < (lateT S text).length → goodC (sgn (lateT S text) k) = true := fun k hk => by
  have hm := sgn_mem hk
  generalize sgn (lateT S text) k = c at hm
  have h1 : ∀ c ∈ codes (" :" : PySem.Str), goodC c = true := by decide +kernel
  have hm : c ∈ codes (lateT S text) := hm
  unfold lateT at hm
  simp only [codes_app, List.mem_append] at hm
  rcases hm with (hm | hm) | hm
  · exact wr_good hw hg c hm
  · exact h1 c hm
  · have e : codes (strikeS 125 (strikeS 91 text)) = (text.cps.toList.filter (· != 91)).filter (· != 125) := by
      unfold strikeS
      simp
    rw [e] at hm
    obtain ⟨h2, h3⟩ := List.mem_filter.mp hm
    obtain ⟨h4, h5⟩ := List.mem_filter.mp h2
    have := law_all (fun c => c == 91 || c == 125 || goodC c) (by decide +kernel) htc h4
    simp only [bne_iff_ne] at h3 h5
    simpa [h3, h5] using this
theorem late_len {S text : PySem.Str} : (lateT S text).length ≤ S.length + 2 + text.length := by
  unfold lateT
  rw [Str.length_append, Str.length_append]
  have h1 : (" :" : PySem.Str).length = 2 := by decide +kernel
  have h2 := strike_len 125 (strikeS 91 text)
  have h3 := strike_len 91 text
  omega
/- Cmp -/
theorem freshCmp : True := by
  w_top off
  trivial
section
open PySem.SeqAt
section
variable {A : Around} {s : Shared}
theorem ref_eqAt {a b : Addr} (h : RcAt A s (.ref a) (.ref b) true) : EqAt A s (.ref a) (.ref b) true := by
  by_cases e : a = b
  · subst e
    exact EqAt.same _
  · exact EqAt.of_refs e h
theorem str_eqAt (x : PySem.Str) (t u : Tok) : EqAt A s (.str x t) (.str x u) true := by
  have := EqAt.str_str (A := A) (s := s) x t x u
  rwa [show (x == x) = true from beq_self_eq_true x] at this
theorem int_eqAt (x : Int) (t u : Tok) : EqAt A s (.int x t) (.int x u) true := by
  have := EqAt.int_int (A := A) (s := s) x t x u
  rwa [show (x == x) = true from beq_self_eq_true x] at this
theorem all_true (n : Nat) : (List.range n).all (fun _ => true) = true := by simp
/-- two tuples alike item by item -/
theorem tup_rcAt {a b : Addr} {vs vs' : List Value} (ha : s.heap.get? a = some (tupOf vs)) (hb : s.heap.get? b = some (tupOf vs')) (hl : vs.length = vs'.length) (hu : A.units < cLine)
    (he : ∀ (j : Nat) (v v' : Value), vs[j]? = some v → vs'[j]? = some v' → EqAt A.in1 s v v' true) : RcAt A s (.ref a) (.ref b) true := by
  have := RcAt.tuples (A := A) (s := s) (l := a) (b := b) (items := vs.toArray) (items2 := vs'.toArray) (e := fun _ => true) ⟨_, ha, rfl, _, rfl⟩ ⟨_, hb, rfl, _, rfl⟩ hu (fun j h1 h2 => he j _ _ (by simpa using List.getElem?_eq_getElem (by simpa using h1)) (by simpa using List.getElem?_eq_getElem (by simpa using h2)))
  have e : ((List.range (min vs.toArray.size vs'.toArray.size)).all (fun _ => true) && vs.toArray.size == vs'.toArray.size) = true := by
    rw [all_true, Bool.true_and, beq_iff_eq, List.size_toArray, List.size_toArray, hl]
  rwa [e] at this
theorem pair_eqAt {a b : Addr} {w : PySem.Str} {p : Int} {t1 t2 t3 t4 : Tok} (ha : s.heap.get? a = some (tupObj w p t1 t2)) (hb : s.heap.get? b = some (tupObj w p t3 t4)) (hu : A.units < cLine) : EqAt A s (.ref a) (.ref b) true :=
  ref_eqAt (tup_rcAt (vs := [.str w t1, .int p t2]) (vs' := [.str w t3, .int p t4]) ha hb rfl hu (fun j v v' h h' => by
    rcases j with _ | _ | j
    · cases h; cases h'; exact str_eqAt _ _ _
    · cases h; cases h'; exact int_eqAt _ _ _
    · cases h))
theorem words_at {tl tl' : List (Addr × Obj)} (hu : A.units < cLine) (h1 : ∀ p ∈ tl, s.heap.get? p.1 = some p.2) (h2 : ∀ p ∈ tl', s.heap.get? p.1 = some p.2) : ∀ {vs vs' : List Value} {ws : List (PySem.Str × Int)}, TupAll tl vs ws → TupAll tl' vs' ws →
    ∀ (j : Nat) (v v' : Value), vs[j]? = some v → vs'[j]? = some v' → EqAt A s v v' true
  | _, _, _, .nil, _, j, _, _, h, _ => by simp at h
  | _, _, _, .cons m r, .cons m' r', 0, _, _, h, h' => by
    cases h; cases h'
    exact pair_eqAt (h1 _ m) (h2 _ m') hu
  | _, _, _, .cons m r, .cons m' r', j + 1, v, v', h, h' => words_at hu h1 h2 r r' j v v' h h'
end
section
variable {prog : Program} {w : World} {A : Around} {E : Value → Shared → Prop} {s : Shared} {Q : Value → Shared → Prop}
theorem ne_words {r r' : Addr} {n n' : Nat} {tl tl' : List (Addr × Obj)} {vs vs' : List Value} {ws : List (PySem.Str × Int)} (hu : A.units + 10 < cLine) (hr : s.heap.get? r = some (PySem.W.listOf vs.toArray n)) (hr' : s.heap.get? r' = some (PySem.W.listOf vs'.toArray n'))
    (h1 : ∀ p ∈ tl, s.heap.get? p.1 = some p.2) (h2 : ∀ p ∈ tl', s.heap.get? p.1 = some p.2) (T : TupAll tl vs ws) (T' : TupAll tl' vs' ws) (h : Q (.bool false) s) : wpAny (model prog w) A (compareOp .NotEq (.ref r) (.ref r')) Q E s := by
  have hl : vs.length = vs'.length := T.length.trans T'.length.symm
  have := RcNeAt.lists (A := A) (s := s) (l := r) (b := r') (items := vs.toArray) (items2 := vs'.toArray) (e := fun _ => true) ⟨_, hr, rfl, _, rfl⟩ ⟨_, hr', rfl, _, rfl⟩ (by simpa using hl) (by omega) (fun j j1 j2 => words_at (A := A.in1) (by rw [Around.in1_units]; omega) h1 h2 T T' j _ _ (by simpa using List.getElem?_eq_getElem (by simpa using j1)) (by simpa using List.getElem?_eq_getElem (by simpa using j2)))
  rw [all_true] at this
  exact this prog w E Q h
end
mutual
theorem tm_at {s : Shared} {ex ex' : List (Addr × Obj)} (h1 : ∀ p ∈ ex, s.heap.get? p.1 = some p.2) (h2 : ∀ p ∈ ex', s.heap.get? p.1 = some p.2) : ∀ {T : Tm} {v v' : Value} {A : Around}, TmIn ex v T → TmIn ex' v' T → A.units + T.deep < cLine → RcAt A s v v' true ∧ EqAt A s v v' true
  | .node o ks, _, _, A, .node (vs := vs) m k, .node (vs := vs') m' k', hu => by
    have hd : ks = [] ∨ Tm.deepL ks + 1 = (Tm.node o ks).deep := by
      cases ks with
      | nil => exact .inl rfl
      | cons t r => exact .inr (by simp [Tm.deep, Tm.deepL])
    have hR := tup_rcAt (A := A) (s := s) (h1 _ m) (h2 _ m') (by rw [List.length_cons, List.length_cons, k.length, k'.length]) (by omega) (fun j v v' h h' => by
      rcases j with _ | j
      · cases h; cases h'; exact str_eqAt _ _ _
      · rcases hd with rfl | hd
        · cases k; simp at h
        · exact tms_at h1 h2 k k' (by rw [Around.in1_units]; omega) j v v' (by simpa using h) (by simpa using h'))
    exact ⟨hR, ref_eqAt hR⟩
theorem tms_at {s : Shared} {ex ex' : List (Addr × Obj)} (h1 : ∀ p ∈ ex, s.heap.get? p.1 = some p.2) (h2 : ∀ p ∈ ex', s.heap.get? p.1 = some p.2) : ∀ {ks : List Tm} {vs vs' : List Value} {A : Around}, TmsIn ex vs ks → TmsIn ex' vs' ks → A.units + Tm.deepL ks < cLine →
    ∀ (j : Nat) (v v' : Value), vs[j]? = some v → vs'[j]? = some v' → EqAt A s v v' true
  | [], _, _, A, .nil, _, hu, j, _, _, h, _ => by simp at h
  | k :: ks, _, _, A, .cons m r, .cons m' r', hu, j, v, v', h, h' => by
    simp only [Tm.deepL] at hu
    rcases j with _ | j
    · cases h; cases h'
      exact (tm_at h1 h2 m m' (by omega)).2
    · exact tms_at h1 h2 r r' (by omega) j v v' (by simpa using h) (by simpa using h')
end
section
variable {prog : Program} {w : World} {A : Around} {E : Value → Shared → Prop} {s : Shared} {Q : Value → Shared → Prop}
theorem eq_terms {ex ex' : List (Addr × Obj)} {v v' : Value} {T : Tm} (h1 : ∀ p ∈ ex, s.heap.get? p.1 = some p.2) (h2 : ∀ p ∈ ex', s.heap.get? p.1 = some p.2) (k : TmIn ex v T) (k' : TmIn ex' v' T) (hu : A.units + T.deep < cLine) (h : Q (.bool true) s) : wpAny (model prog w) A (compareOp .Eq v v') Q E s :=
  (tm_at h1 h2 k k' hu).1 prog w E Q h
end
open PySem.SeqAt
section
variable {prog : Program} {w : World} {A : Around} {E : Value → Shared → Prop} {s : Shared} {Q : Value → Shared → Prop} {a b : Addr} {n n' : Nat}
theorem ne_nil_nil (ha : s.heap.IsList a #[]) (hb : s.heap.IsList b #[]) (hu : A.units < cLine) (h : Q (.bool false) s) : wpAny (model prog w) A (compareOp .NotEq (.ref a) (.ref b)) Q E s :=
  RcNeAt.lists (A := A) (s := s) (e := fun _ => true) ha hb rfl hu (fun j h1 _ => absurd h1 (Nat.not_lt_zero _)) prog w E Q h
theorem ne_cons_nil {v : Value} {vs : List Value} (ha : s.heap.IsList a (v :: vs).toArray) (hb : s.heap.IsList b #[]) (hu : A.units < cLine) (h : Q (.bool true) s) : wpAny (model prog w) A (compareOp .NotEq (.ref a) (.ref b)) Q E s :=
  RcNeAt.lists_lengths (A := A) (s := s) ha hb (by rw [List.size_toArray]; exact bne_iff_ne.mpr (Nat.succ_ne_zero _)) hu prog w E Q h
theorem ne_int_int {i : Int} {t u : Tok} (h : Q (.bool false) s) : wpAny (model prog w) A (compareOp .NotEq (.int i t) (.int i u)) Q E s := by
  have := RcNeAt.int_int (A := A) (s := s) i t i u
  rw [show (!(i == i)) = false by rw [beq_self_eq_true]; rfl] at this
  exact this prog w E Q h
end
open PySem.SeqAt
section
variable {prog : Program} {w : World} {A : Around} {E : Value → Shared → Prop} {s : Shared} {Q : Value → Shared → Prop}
theorem ne_str_same {x : PySem.Str} {t u : Tok} (h : Q (.bool false) s) : wpAny (model prog w) A (compareOp .NotEq (.str x t) (.str x u)) Q E s := by
  have := RcNeAt.str_str (A := A) (s := s) x t x u
  rw [show (!(x == x)) = false by rw [beq_self_eq_true]; rfl] at this
  exact this prog w E Q h
theorem eq_str_same {x : PySem.Str} {t u : Tok} (h : Q (.bool true) s) : wpAny (model prog w) A (compareOp .Eq (.str x t) (.str x u)) Q E s := by
  have := RcAt.str_str (A := A) (s := s) x t x u
  rw [beq_self_eq_true] at this
  exact this prog w E Q h
end
end
/- LawV -/
theorem freshLawV : True := by
  w_top off
  trivial
section
variable {w : World} {A₀ : Around} {s : Shared} {base h₀ : Heap} {L a : Addr} {m : PySem.Str → Option Value} {mean : ExcName → Option Value} {mg mb : PySem.Str → Option Value} {Q : Value → Shared → Prop} {E : Value → Shared → Prop} {dp un : Nat} {gd : Option (List Code)} {cn : PySem.Str} {cs : Scope} {ccd : Value} {cll : List (PySem.Str × Addr)}
  {rd dxr r q : Addr} {k : RK} {p d : Nat} {tp td : Tok} {vs : List Value} {n : Nat} {pre tl news : List (Addr × Obj)} {ws : List (PySem.Str × Int)} {wd : PySem.Str} {sp : Int} {t1 t2 : Tok}
theorem cut_use2 {t : PySem.Str} {xt : Tok} (C : Cx w s.heap A₀ base h₀ cs [] L m mean mg mb) (N : News h₀ L s.heap news) (hlen : t.length ≤ 60) (hd : dp + 20 < recursionLimit) (hu : un + 100 < cLine)
    (h : ∀ r vs n tl h' tk', Fr h₀ L h' m → News h₀ L h' ((r, PySem.W.listOf (vs : List Value).toArray n) :: (news ++ tl)) → s.heap.get? r = none → (∀ p ∈ tl, s.heap.get? p.1 = none) → TupAll tl vs (cutT t) → Q (.ref r) { s with heap := h', toks := tk' }) :
    wpAny (model Challenge.rw_rg0116_01.row.prog w) (ktrTop dp un gd cn cs L a ccd cll []) (call (.ref 274) [.str t xt]) Q E s := by
  have F : Fr h₀ L s.heap m := C.F
  refine cut_ok C hlen hd hu (fun r vs n tl h' tk' kp hp hoff hT => ?_)
  refine h r vs n tl h' tk' (F.keeps (kp_nil kp)) (fun p hm => ?_) (hp _ (.head _)).2 (fun p hm => (hp p (.tail _ hm)).2) hT
  rcases List.mem_cons.mp hm with rfl | hm
  · exact new_L F hp _ (.head _)
  · rcases List.mem_append.mp hm with hm | hm
    · exact (N.grown (kp_nil kp)) p hm
    · exact new_L F hp p (.tail _ hm)
theorem led_ne {b : Addr} (N : News h₀ L s.heap news) (hb : s.heap.get? b = none) : ∀ x ∈ news, x.1 ≠ b := fun x hx e => by
  have h1 := (N x hx).1
  rw [e, hb] at h1
  cases h1
theorem reader_use {t : PySem.Str} {xt : Tok} (C : Cx w s.heap A₀ base h₀ cs [] L m mean mg mb) (N : News h₀ L s.heap pre) (hlen : t.length ≤ 1000) (hd : dp + 30 < recursionLimit) (hu : un + 150 < cLine) (hgood : ∀ k, k < t.length → goodC (sgn t k) = true)
    (h : ∀ rd dxr r k tp td vs n tl h' tk', Fr h₀ L h' m → News h₀ L h' (pre ++ rdL rd dxr r k 0 0 tp td vs n tl) → RdOk rd dxr r vs tl (wordsT t) → (∀ x ∈ rdL rd dxr r k 0 0 tp td vs n tl, s.heap.get? x.1 = none) → (∀ x ∈ pre, x.1 ≠ dxr) → Q (.ref rd) { s with heap := h', toks := tk' }) :
    wpAny (model Challenge.rw_rg0116_01.row.prog w) (ktrTop dp un gd cn cs L a ccd cll []) (call (.ref 258) [.str t xt]) Q E s := by
  have F : Fr h₀ L s.heap m := C.F
  refine reader_ok C hlen hd hu hgood (fun rd dxr r k tp td vs n tl h' tk' kp hp R => ?_)
  refine h rd dxr r k tp td vs n tl h' tk' (F.keeps (kp_nil kp)) (fun p hm => ?_) R (fun x hx => (hp x hx).2) (led_ne N (hp _ (.tail _ (.head _))).2)
  rcases List.mem_append.mp hm with hm | hm
  · exact (N.grown (kp_nil kp)) p hm
  · exact new_L F hp p hm
theorem taken_use {tw tsp : Tok} (XB : (Mine.hd.heap_39 w.params).In base) (TB : Top Mine.hd.view_39 (looseW Mine.hd.view_39 []) mean mg mb base)
    (C : Cx w s.heap A₀ base h₀ cs [] L m mean mg mb) (R : RdOk rd dxr r vs tl ws) (hpre : ∀ x ∈ pre, x.1 ≠ dxr) (N : News h₀ L s.heap (pre ++ rdL rd dxr r k p d tp td vs n tl)) (hw : ws[p]? = some (wd, sp)) (hgood : wd ∈ [("(" : PySem.Str), ")", ",", ":"] ∨ isOp wd = true) (hd : dp + 60 < recursionLimit) (hu : un + 200 < cLine)
    (h : ∀ h' tk' tp', Fr h₀ L h' m → News h₀ L h' (pre ++ rdL rd dxr r k (p + 1) d tp' td vs n tl) → Q (.bool true) { s with heap := h', toks := tk' }) :
    wpAny (model Challenge.rw_rg0116_01.row.prog w) (ktrTop dp un gd cn cs L a ccd cll []) (call (.ref 302) [.ref rd, .str wd tw, .int sp tsp]) Q E s := by
  have F : Fr h₀ L s.heap m := C.F
  have Nd := N (dxr, rdDict k r p d tp td) (List.mem_append_right _ (.tail _ (.head _)))
  refine taken_ok XB TB C R (fun x hx => N x (List.mem_append_right _ hx)) hw hgood hd hu (fun h' tk' tp' U hd' => ?_)
  obtain ⟨g', KT, F', B', K⟩ := regroundX C.B F U (by simpa using Nd.2.2) (by simpa using Ne.symm Nd.2.1)
  have keep : ∀ y ∈ pre ++ rdL rd dxr r k p d tp td vs n tl, y.1 ≠ dxr → h'.get? y.1 = some y.2 ∧ y.1 ≠ L ∧ g'.get? y.1 = none := fun y hy ne =>
    have z := K y.1 y.2 (by simpa using ne) (N y hy).1 (N y hy).2.1 (N y hy).2.2
    ⟨z.1, (N y hy).2.1, z.2⟩
  refine h h' tk' tp' (back_F KT F') (back_N KT fun x hx => ?_)
  rcases List.mem_append.mp hx with hx | hx
  · exact keep x (List.mem_append_left _ hx) (hpre x hx)
  rcases List.mem_cons.mp hx with rfl | hx
  · exact keep (rd, instObj 258 dxr) (List.mem_append_right _ (.head _)) R.n1
  rcases List.mem_cons.mp hx with rfl | hx
  · exact ⟨hd', Nd.2.1, KT.none_ _ Nd.2.2⟩
  rcases List.mem_cons.mp hx with rfl | hx
  · exact keep (r, PySem.W.listOf vs.toArray n) (List.mem_append_right _ (.tail _ (.tail _ (.head _)))) R.n2
  · exact keep x (List.mem_append_right _ (.tail _ (.tail _ (.tail _ hx)))) (R.n3 x hx)
theorem noop_use2 {tsp : Tok} (XB : (Mine.hd.heap_39 w.params).In base) (TB : Top Mine.hd.view_39 (looseW Mine.hd.view_39 []) mean mg mb base)
    (C : Cx w s.heap A₀ base h₀ cs [] L m mean mg mb) (R : RdOk rd dxr r vs tl ws) (N : News h₀ L s.heap (pre ++ rdL rd dxr r k p d tp td vs n tl)) (hw : ws[p]? = some (wd, sp)) (hwx : isOp wd = false) (hd : dp + 40 < recursionLimit) (hu : un + 150 < cLine)
    (h : ∀ h' tk', Fr h₀ L h' m → News h₀ L h' (pre ++ rdL rd dxr r k p d tp td vs n tl) → Q (.bool true) { s with heap := h', toks := tk' }) :
    wpAny (model Challenge.rw_rg0116_01.row.prog w) (ktrTop dp un gd cn cs L a ccd cll []) (call (.ref 295) [.ref rd, .int sp tsp]) Q E s :=
  noop_use XB TB C.B C.F C.X C.T C.hk R N (fun x hx => List.mem_append_right _ hx) hw hwx hd hu fun g' h' tk' KT F' N' _ _ _ => h h' tk' (back_F KT F') (back_N KT N')
theorem lterm_use {nf : Nat} {ld cl : Addr} {kk : Int} {t3 tf : Tok} {o : Obj} {cvs : List Value} {ns : List Int} {rest : List (Addr × Obj)} (C : Cx w s.heap A₀ base h₀ cs [] L m mean mg mb) (N : News h₀ L s.heap ((ld, o) :: rest)) (hne : ∀ x ∈ rest, x.1 ≠ ld)
    (ho : LogIs w o cl kk t3) (hcl : s.heap.IsList cl cvs.toArray) (hi : IntsAre cvs ns) (hl : ns.length ≤ 50) (h0 : 0 ≤ kk) (hk : kk + bnd nf ≤ 10000) (hd : dp + 20 + 10 * nf < recursionLimit) (hu : un + 100 + 20 * nf < cLine)
    (h : ∀ T v ex h' tk' k' t3' o', Gd nf T → kk ≤ k' → k' ≤ kk + bnd nf → Fr h₀ L h' m → News h₀ L h' ((ld, o') :: (rest ++ ex)) → LogIs w o' cl k' t3' → (∀ x ∈ ex, s.heap.get? x.1 = none) → TmIn ex v T → Q v { s with heap := h', toks := tk' }) :
    wpAny (model Challenge.rw_rg0116_01.row.prog w) (ktrTop dp un gd cn cs L a ccd cll []) (call (.ref 307) [.ref ld, .int nf tf]) Q E s := by
  have F : Fr h₀ L s.heap m := C.F
  have Nd := N (ld, o) (.head _)
  refine lterm_all nf C (fun p hp => by rw [List.mem_singleton.mp hp]; exact Nd) ho hcl hi hl h0 hk hd hu (fun T v ex h' tk' k' t3' o' hG h1 h2 kp hl' ho' hex hT => ?_)
  refine h T v ex h' tk' k' t3' o' hG h1 h2 (kp_fr F kp (by simpa using Ne.symm Nd.2.1) (by simpa using Nd.2.2)) (fun p hp => ?_) ho' (fun x hx => (hex x hx).2) hT
  rcases List.mem_cons.mp hp with rfl | hp
  · exact ⟨hl', Nd.2⟩
  rcases List.mem_append.mp hp with hp | hp
  · have z := N p (.tail _ hp)
    exact ⟨kp _ _ (by simpa using hne p hp) z.1, z.2⟩
  · exact new_L F hex p hp
theorem lwrit_use {nf : Nat} {ld cl : Addr} {kk : Int} {t3 : Tok} {o : Obj} {cvs : List Value} {ns : List Int} {rest ex : List (Addr × Obj)} {T : Tm} {v : Value} (hG : Gd nf T) (hT : TmIn ex v T) (hex : ∀ x ∈ ex, x ∈ rest) (C : Cx w s.heap A₀ base h₀ cs [] L m mean mg mb) (N : News h₀ L s.heap ((ld, o) :: rest)) (hne : ∀ x ∈ rest, x.1 ≠ ld)
    (ho : LogIs w o cl kk t3) (hcl : s.heap.IsList cl cvs.toArray) (hi : IntsAre cvs ns) (hl : ns.length ≤ 50) (h0 : 0 ≤ kk) (hk : kk + bnd nf ≤ 10000) (hlb : lenB nf ≤ 10000) (hd : dp + 20 + 10 * nf < recursionLimit) (hu : un + 100 + 20 * nf < cLine)
    (h : ∀ S tS h' tk' k' t3' o', Wr T S → S.length ≤ lenB nf → kk ≤ k' → k' ≤ kk + bnd nf → Fr h₀ L h' m → News h₀ L h' ((ld, o') :: rest) → LogIs w o' cl k' t3' → Q (.str S tS) { s with heap := h', toks := tk' }) :
    wpAny (model Challenge.rw_rg0116_01.row.prog w) (ktrTop dp un gd cn cs L a ccd cll []) (call (.ref 312) [.ref ld, v]) Q E s := by
  have F : Fr h₀ L s.heap m := C.F
  have Nd := N (ld, o) (.head _)
  refine lwrit_all nf hG hT (fun x hx => (N x (.tail _ (hex x hx))).1) (fun x hx => hne x (hex x hx)) C (fun p hp => by rw [List.mem_singleton.mp hp]; exact Nd) ho hcl hi hl h0 hk hlb hd hu (fun S tS h' tk' k' t3' o' hW hSl h1 h2 kp hl' ho' => ?_)
  refine h S tS h' tk' k' t3' o' hW hSl h1 h2 (kp_fr F kp (by simpa using Ne.symm Nd.2.1) (by simpa using Nd.2.2)) (fun p hp => ?_) ho'
  rcases List.mem_cons.mp hp with rfl | hp
  · exact ⟨hl', Nd.2⟩
  · have z := N p (.tail _ hp)
    exact ⟨kp _ _ (by simpa using hne p hp) z.1, z.2⟩
end
theorem TupAll.butLast {tl : List (Addr × Obj)} {x : PySem.Str × Int} : ∀ {vs : List Value} {ws : List (PySem.Str × Int)}, TupAll tl vs (ws ++ [x]) → TupAll tl vs.dropLast ws
  | _, [], .cons _ .nil => .nil
  | _, w :: ws, .cons (vs := vs) h r => by
    have ih := r.butLast
    have hv : vs ≠ [] := by
      have := r.length
      have h2 : (ws.append [x]).length = ws.length + 1 := by simp
      intro e
      rw [e, h2] at this
      exact absurd this (by simp)
    obtain ⟨y, ys, rfl⟩ := List.exists_cons_of_ne_nil hv
    rw [List.dropLast_cons_cons]
    exact .cons h ih
theorem TupAll.at2 {tl : List (Addr × Obj)} : ∀ {vs : List Value} {ws : List (PySem.Str × Int)} {p : Nat} {v : Value}, TupAll tl vs ws → vs[p]? = some v → ∃ wd sp q t1 t2, ws[p]? = some (wd, sp) ∧ v = .ref q ∧ (q, tupObj wd sp t1 t2) ∈ tl
  | _, _, p, _, .nil, h => by simp at h
  | _, _, 0, _, .cons hm _, h => by
    cases h
    exact ⟨_, _, _, _, _, rfl, rfl, hm⟩
  | _, _, p + 1, _, .cons _ r, h => r.at2 (p := p) h
theorem pick_but {vs : List Value} : slicePick vs.toArray none (some (-1)) none = vs.dropLast.toArray := by
  have := slicePick_butLast vs.toArray 1 (Nat.le_refl _)
  rw [show (-1 : Int) = -((1 : Nat) : Int) from rfl, this, List.size_toArray, List.dropLast_eq_take]
section
variable {prog : Program} {w : World} {A : Around} {E : Value → Shared → Prop} {s : Shared} {env : Env} {h₀ : Heap} {target : Expr} {body : List Stmt} {Q : Flow → Shared → Prop}
theorem turns_list2 {l : Addr} {vs : List Value} {n : Nat} {m : PySem.Str → Option Value} {news : List (Addr × Obj)} (hh : A.handled = none) (F : Fr h₀ env.locals s.heap m) (N : News h₀ env.locals s.heap news) (hl : (l, PySem.W.listOf vs.toArray n) ∈ news)
    (J : Nat → (PySem.Str → Option Value) → List (Addr × Obj) → Prop) (h0 : J 0 m news)
    (turn : ∀ i v m₁ news₁ h₁ tk₁ own wr, vs[i]? = some v → J i m₁ news₁ → (∀ p ∈ news₁, p.1 ∉ wr) → (∀ p ∈ own, s.heap.get? p.1 = none ∨ p.1 = l) → wr = [s.heap.objs.size] → Fr h₀ env.locals h₁ m₁ → News h₀ env.locals h₁ (own ++ news₁) →
      wpAny (model prog w) A (assign target env v) (fun _ s₃ => wpAny (model prog w) A (execs body env)
        (LoopStepV h₀ env.locals wr own (J (i + 1)) { s with heap := h₁, toks := tk₁ } (fun v s' => Q (.ret v) s') fun s' => Q .next s') E s₃) E { s with heap := h₁, toks := tk₁ })
    (done : ∀ h' tk m' news', Fr h₀ env.locals h' m' → News h₀ env.locals h' news' → J vs.length m' news' → Q .next { s with heap := h', toks := tk }) :
    wpAny (model prog w) A (pyIter (.ref l)) (fun it s₂ => TurnsAt prog w A h₀ env target body Q E it s₂) E s := by
  have hls : s.heap.IsList l vs.toArray := N.isList hl
  have hlt : l < s.heap.objs.size := Heap.lt_size (N _ hl).1
  have hne : l ≠ s.heap.objs.size := Nat.ne_of_lt hlt
  refine wpAny_pyIter_list hls ?_
  refine ⟨s.heap.objs.size, _, _, _, _, _, _, m, news, J, rfl, KTurns.ofWalks (Walks.list hh s.heap.objs.size l hne vs.toArray) (fun i v s Q E st q => letGo_listiter st.1 q), ?_, ?_, ?_, ⟨⟨_, Heap.get?_push_size _ rfl, rfl, rfl⟩, hls.at fun o e => Heap.get?_push_of_some _ e⟩, F.push _, (fun p hp => ⟨Heap.get?_push_of_some _ (N p hp).1, (N p hp).2⟩), h0, ?_, ?_⟩
  · intro hI
    rcases List.mem_cons.mp hI with e | hI
    · exact absurd F.ns.lt (e ▸ Nat.lt_irrefl _)
    · exact (N _ hl).2.1 (List.mem_singleton.mp hI).symm
  · intro b hb
    rw [List.mem_singleton.mp hb]
    exact next_is_new F
  · intro p hp hI
    exact absurd (Heap.lt_size (N p hp).1) ((List.mem_singleton.mp hI) ▸ Nat.lt_irrefl _)
  · intro i v m₁ news₁ h₁ tk₁ own hi hP hJ hoff hsub _ _ _ F₁ N₁
    refine turn i v m₁ news₁ h₁ tk₁ own _ (by simpa using hP) hJ hoff (fun p hp => ?_) rfl F₁ N₁
    rcases List.mem_cons.mp (hsub p hp) with e | e
    · exact .inl (by rw [e]; exact Heap.get?_none_of_le (Nat.le_refl _))
    · exact .inr (List.mem_singleton.mp e)
  · intro h' tk m' news' F' N' _ hJ
    exact done h' tk m' news' F' N' (by simpa using hJ)
end
/-- the words of a text, but for the last -/
noncomputable def bodyW (t : PySem.Str) : List (PySem.Str × Int) := (toks opC puC t.cps.toList 0).map encW
theorem wordsT_body (t : PySem.Str) : wordsT t = bodyW t ++ [(Str.ofString "", (t.length : Int))] := rfl
theorem body_at {t : PySem.Str} {p : Nat} {x : PySem.Str × Int} (h : (bodyW t)[p]? = some x) : (wordsT t)[p]? = some x := by
  rw [wordsT_body, List.getElem?_append_left (List.getElem?_eq_some_iff.mp h).1]
  exact h
theorem body_last (t : PySem.Str) : (wordsT t)[(bodyW t).length]? = some (Str.ofString "", (t.length : Int)) := by
  rw [wordsT_body, List.getElem?_append_right (Nat.le_refl _), Nat.sub_self]
  rfl
theorem body_kind {t : PySem.Str} {p : Nat} {wd : PySem.Str} {sp : Int} (h : (bodyW t)[p]? = some (wd, sp)) : wd ∈ [("(" : PySem.Str), ")", ",", ":"] ∨ isOp wd = true := word_kind (List.mem_of_getElem? h)
theorem body_bound (t : PySem.Str) : (bodyW t).length ≤ t.length := by
  unfold bodyW
  rw [List.length_map, ← len_list]
  exact (toks_bound (op := opC) (pu := puC) _ t.cps.toList 0 (Nat.le_refl _)).1
section
variable {prog : Program} {w : World} {A : Around} {E : Value → Shared → Prop} {s : Shared}
theorem add_lenT {x y : PySem.Str} {t u : Tok} {Q : Value → Shared → Prop} (hx : x.length ≤ 100000) (hy : y.length ≤ 100000) (h : ∀ t' k, (x ++ y).length = x.length + y.length → s.toks ≤ k → Q (.str (x ++ y) t') { s with toks := k }) : wpAny (model prog w) A (binaryOp .Add (.str x t) (.str y u)) Q E s :=
  with_toks (add_len hx hy fun t' k hl hk => h t' k hl hk)
end
/- law -/
theorem freshLaw : True := by
  w_top off
  trivial
local macro_rules | `(tactic| walk_at "execs cons") => `(tactic| ((with_reducible refine wpAny_execs_cons ?_); try dsimp only))
local macro_rules | `(tactic| walk_at "binaryOp Add str str") => `(tactic| (k_here; (with_reducible show wpAny _ _ (binaryOp Operator.Add (Value.str _ _) (Value.str _ _)) _ _ _); (refine add_lenT ?ka ?kb ?_; (case ka => omega); (case kb => omega)); intro t' k' hl9 hk9; (try dsimp only at hk9)))
theorem item0 {prog : Program} {w : World} {A : Around} {E : Value → Shared → Prop} {s : Shared} {value slice : PySem.Expr} {l : Addr} {v : Value} {vs : List Value} {u : Tok} {Q : Value → Shared → Prop}
    (hl : s.heap.IsList l (v :: vs).toArray) (h : Q v s) (hs : subscripted slice false (.ref l) (.int 0 u) = operate [.ref l, .int 0 u] (getItem (.ref l) (.int 0 u)) := by with_unfolding_all rfl) :
    wpAny (model prog w) A (subscriptTail value slice (.ref l) (.int 0 u)) Q E s :=
  tail_any hl.typeIs slot_list_getitem.lookup (wpAny_getItem_list hl (by decide) (by decide) (by simp) h) hs
local macro_rules | `(tactic| k_qdec) => `(tactic| decide +kernel)
set_option maxHeartbeats 40000000 in
theorem thelaw : PySem.Challenge.rw_rg0116_01.Holds := hd (by
  dsimp only [D317, P317, B317, S317, xP317, xB317, xS317]
  k_go0
  all_goals try k_fold
  (repeat' (first | (k_unfold; (try dsimp only)) | ((fail_if_success (with_reducible first | refine stop_at [76, 274, 281, 302, 307, 312, 258, 222, 166, 173, 295] (by decide) ?_ | refine stop_pi ?_ | refine stop_ne ?_ | refine stop_eq ?_ | refine stop_st (by decide) ?_ | refine stop_bl (by decide) ?_ | refine stop_lc ?_ | refine stop_jp ?_ | show LCg.CompSrc _ _ _ _ _ _ _ _ _ _ _ _ _ _ | show LCt.CompSrcT _ _ _ _ _ _ _ _ _ _ _ _ _ _ _)); (first | ((with_reducible refine stop_cr ?_); first | (k_here; (with_reducible show wpAny _ _ (call (Value.ref 269) _) _ _ _); k_dflt (refine' hewn_use ?B ?F ?X ?T ?hk ?N ?ho ?U ?hcl ?hi ?hl ?h0 ?h1 ?m0 ?m1 ?d ?u ?_; (case B => k_asm); (case F => k_asm); (case X => k_asm); (case T => k_asm); (case hk => exact rfl); (case N => k_asm); (case ho => assumption); (case U => k_updF); (case hcl => first | (with_reducible assumption) | exact isl_keep (by assumption) (Fr.keep (by k_asm)) | exact News.isList (by k_asm) (by k_mem)); (case hi => assumption); (case hl => assumption); (case h0 => omega); (case h1 => omega); (case m0 => first | decide | omega); (case m1 => first | decide | omega); (case d => first | exact room2 (by assumption) (by exact rfl) | exact room1 (by assumption) (by exact rfl) | omega | decide | (dsimp only [ktrTop]; omega)); (case u => first | exact room2 (by assumption) (by exact rfl) | exact room1 (by assumption) (by exact rfl) | omega | decide | (dsimp only [ktrTop]; omega))); intro _ _ _ _ _ _ _ _ _ _ _; ktr_rel)) | (k_here; (with_reducible show wpAny _ _ (subscriptTail _ _ (Value.ref _) (Value.int _ _)) _ _ _); k_dflt (refine' item0 ?t ?_; (case t => exact News.isList (by k_asm) (by k_mem)))) | ((with_reducible refine stop_cw ?_); k_dflt (refine' callWith_K0 (Frag.In.keeps KX (Fr.keep (by with_reducible assumption))) ?k2 ?_; (case k2 => k_is); k_whole)) | walk1 | (dsimp only; first | walk1 | (k_unfold; (try dsimp only)))))))
  rename Fr _ _ _ _ => F1a
  rename News _ _ _ _ => N1
  rename Shared => s1
  rename World => w
  rename Below _ _ _ _ => K0
  rename Frag.In _ _ => KX
  rename Top _ _ _ _ _ _ => TT
  rename_i ct cl0 dct0 dcl0 X0 ld hx1 o0 lo0 hd0 l10 D0 ws hx2 hI hC hLn l11 Dc cc0 hx3 l12 hx4 o1 hdo hx5 oc dcl
  have hns : (List.take 50 _).length ≤ 50 := Nat.le_trans (Nat.le_of_eq hC) (Nat.min_le_left _ _)
  obtain ⟨m0, F1⟩ : ∃ m0, Fr s1.heap s1.heap.objs.size hx5 m0 := ⟨_, F1a⟩
  clear F1a
  have dct : ct.data = .cell none := dct0
  clear dct0 dcl0 X0
  have KB : Below callerA s1.heap [] s1.heap := K0
  refine with_toks ?_
  refine LCg.ListComp_U (F₀ := F1) (by with_unfolding_all rfl) (by decide) (by rfl) (by decide) (by rfl) ?_
  (repeat' (first | (k_unfold; (try dsimp only)) | ((fail_if_success (with_reducible first | refine stop_at [76, 274, 281, 302, 307, 312, 258, 222, 166, 173, 295] (by decide) ?_ | refine stop_pi ?_ | refine stop_ne ?_ | refine stop_eq ?_ | refine stop_st (by decide) ?_ | refine stop_bl (by decide) ?_ | refine stop_lc ?_ | refine stop_jp ?_ | show LCg.CompSrc _ _ _ _ _ _ _ _ _ _ _ _ _ _ | show LCt.CompSrcT _ _ _ _ _ _ _ _ _ _ _ _ _ _ _)); (first | ((with_reducible refine stop_cr ?_); first | (k_here; (with_reducible show wpAny _ _ (call (Value.ref 269) _) _ _ _); k_dflt (refine' hewn_use ?B ?F ?X ?T ?hk ?N ?ho ?U ?hcl ?hi ?hl ?h0 ?h1 ?m0 ?m1 ?d ?u ?_; (case B => k_asm); (case F => k_asm); (case X => k_asm); (case T => k_asm); (case hk => exact rfl); (case N => k_asm); (case ho => assumption); (case U => k_updF); (case hcl => first | (with_reducible assumption) | exact isl_keep (by assumption) (Fr.keep (by k_asm)) | exact News.isList (by k_asm) (by k_mem)); (case hi => assumption); (case hl => assumption); (case h0 => omega); (case h1 => omega); (case m0 => first | decide | omega); (case m1 => first | decide | omega); (case d => first | exact room2 (by assumption) (by exact rfl) | exact room1 (by assumption) (by exact rfl) | omega | decide | (dsimp only [ktrTop]; omega)); (case u => first | exact room2 (by assumption) (by exact rfl) | exact room1 (by assumption) (by exact rfl) | omega | decide | (dsimp only [ktrTop]; omega))); intro _ _ _ _ _ _ _ _ _ _ _; ktr_rel)) | (k_here; (with_reducible show wpAny _ _ (subscriptTail _ _ (Value.ref _) (Value.int _ _)) _ _ _); k_dflt (refine' item0 ?t ?_; (case t => exact News.isList (by k_asm) (by k_mem)))) | ((with_reducible refine stop_cw ?_); k_dflt (refine' callWith_K0 (Frag.In.keeps KX (Fr.keep (by with_reducible assumption))) ?k2 ?_; (case k2 => k_is); k_whole)) | walk1 | (dsimp only; first | walk1 | (k_unfold; (try dsimp only)))))))
  rename IsRange _ _ _ _ _ _ _ _ => hR
  rename Fr s1.heap _ _ _ => F7
  rename News s1.heap _ _ _ => N7
  rename LogIs w _ Dc _ _ => D7
  rename_i r1 t1 h1 tk1 t31 o2 hr0 hr1 F1b N1b h2 tk2 tu1 tu2 tu3 up1
  clear F1b N1b up1
  have dcc : True := trivial
  refine' src_range (Inv := fun i ys nw => ∃ (css : List PySem.Str) (o' : Obj) (t3' : Tok), nw = [(Dc, PySem.W.listOf ws.toArray cc0), (D0, PySem.W.listOf ws.toArray 0), (ld, o'), (s1.heap.objs.size + 1 + 1, ct), (s1.heap.objs.size + 1, oc)] ∧ StrsAre ys css ∧ css.length = i ∧ (∀ c ∈ css, ∃ n ∈ lawCodes, c = ⟨#[n]⟩) ∧ LogIs w o' Dc (1 + i) t3') rfl F7 N7 hR hr0 (by omega) ⟨[], _, _, rfl, .nil, rfl, (fun _ h => nomatch h), D7⟩ ?turn ?fin
  case turn =>
    intro g i ys nw v I oI C5 oC Dl m₂ h tk E' hi2 hI2 _ hP hC2 hx F N8 off ne
    obtain ⟨css, o', t3', rfl, hys, hlen', hcs, hlog⟩ := hI2
    clear F7 N7 hR D7
    have offl := off.mem (ld, o') (by k_dflt k_mem)
    have oI1 : I ≠ ld := Ne.symm offl.1
    have oC1 : C5 ≠ ld := Ne.symm offl.2.1
    have oD1 : Dl ≠ ld := Ne.symm offl.2.2
    have hi25 : i < 25 := Nat.lt_of_lt_of_le hi2 (Int.toNat_le.mpr (Int.le_of_lt hr1))
    (repeat' (first | (k_unfold; (try dsimp only)) | ((fail_if_success (with_reducible first | refine stop_at [76, 274, 281, 302, 307, 312, 258, 222, 166, 173, 295] (by decide) ?_ | refine stop_pi ?_ | refine stop_ne ?_ | refine stop_eq ?_ | refine stop_st (by decide) ?_ | refine stop_bl (by decide) ?_ | refine stop_lc ?_ | refine stop_jp ?_ | show LCg.CompSrc _ _ _ _ _ _ _ _ _ _ _ _ _ _ | show LCt.CompSrcT _ _ _ _ _ _ _ _ _ _ _ _ _ _ _)); (first | ((with_reducible refine stop_cr ?_); first | (k_here; (with_reducible show wpAny _ _ (call (Value.ref 269) _) _ _ _); k_dflt (refine' hewn_use ?B ?F ?X ?T ?hk ?N ?ho ?U ?hcl ?hi ?hl ?h0 ?h1 ?m0 ?m1 ?d ?u ?_; (case B => k_asm); (case F => k_asm); (case X => k_asm); (case T => k_asm); (case hk => exact rfl); (case N => k_asm); (case ho => assumption); (case U => k_updF); (case hcl => first | (with_reducible assumption) | exact isl_keep (by assumption) (Fr.keep (by k_asm)) | exact News.isList (by k_asm) (by k_mem)); (case hi => assumption); (case hl => assumption); (case h0 => omega); (case h1 => omega); (case m0 => first | decide | omega); (case m1 => first | decide | omega); (case d => first | exact room2 (by assumption) (by exact rfl) | exact room1 (by assumption) (by exact rfl) | omega | decide | (dsimp only [ktrTop]; omega)); (case u => first | exact room2 (by assumption) (by exact rfl) | exact room1 (by assumption) (by exact rfl) | omega | decide | (dsimp only [ktrTop]; omega))); intro _ _ _ _ _ _ _ _ _ _ _; ktr_rel)) | (k_here; (with_reducible show wpAny _ _ (subscriptTail _ _ (Value.ref _) (Value.int _ _)) _ _ _); k_dflt (refine' item0 ?t ?_; (case t => exact News.isList (by k_asm) (by k_mem)))) | ((with_reducible refine stop_cw ?_); k_dflt (refine' callWith_K0 (Frag.In.keeps KX (Fr.keep (by with_reducible assumption))) ?k2 ?_; (case k2 => k_is); k_whole)) | walk1 | (dsimp only; first | walk1 | (k_unfold; (try dsimp only)))))))
    rename Fr s1.heap _ _ _ => F9
    rename News s1.heap _ _ _ => N9
    rename LogIs w _ Dc _ _ => D9
    rename (Txt.item _ _).length = 1 => hc1
    rename_i r9 t9 h9 tk9 t39 o9 hr90 hr91
    obtain ⟨rn, rfl, hrn⟩ : ∃ rn : Nat, r9 = rn ∧ rn < 25 := ⟨r9.toNat, by omega, by omega⟩
    refine LCg.CompEnd.intro F9 N9 [(Dc, PySem.W.listOf ws.toArray cc0), (D0, PySem.W.listOf ws.toArray 0), (ld, o9), (s1.heap.objs.size + 1 + 1, ct), (s1.heap.objs.size + 1, oc)] (fun _ h => h) ?_ trivial ⟨css ++ [_], o9, t39, rfl, StrsAre.append' hys (.cons _ _ .nil), by simp [hlen'], ?_, ?_⟩
    · exact off
    · intro c hc
      rcases List.mem_append.mp hc with hc | hc
      · exact hcs c hc
      · rw [List.mem_singleton.mp hc]
        exact lawItem rn hrn
    · have e : (1 : Int) + ((i + 1 : Nat) : Int) = 1 + i + 1 := by omega
      rw [e]
      exact D9
  case fin =>
  intro g5 ys nw hI2
  obtain ⟨css, o', t3', rfl, hys, hlen', hcs, hlog⟩ := hI2
  clear F7 N7 hR D7
  unfold LCg.FinE
  intro Dl h tk F8 N8 _
  dsimp only
  intro ht0
  have hp0 : 0 < tk := Nat.lt_of_lt_of_le (Nat.succ_pos _) ht0
  refine spliced_none ?_
  refine with_toks ?_
  have hsum := cat_codes hcs
  have hjn : ("" : PySem.Str).length = 0 := rfl
  refine join_list (N8.isList (.head _)) hys (by rw [← cat_sum, hjn, Nat.mul_zero, ← len_list, hsum.1]; omega) (fun tj kj => ?_)
  rw [join_cat]
  obtain ⟨text, htl, htc, hte⟩ : ∃ text : PySem.Str, text.length ≤ 24 ∧ (∀ c ∈ text.cps.toList, c ∈ lawCodes) ∧ cat css = text := ⟨_, by rw [← len_list, hsum.1]; omega, hsum.2, rfl⟩
  dsimp only
  intro ht1
  have hp1 : 0 < kj := Nat.lt_of_lt_of_le hp0 ht1
  rw [hte]
  clear hte hsum hjn hcs hys hlen'
  have N9 : News s1.heap s1.heap.objs.size h [(Dc, PySem.W.listOf ws.toArray cc0), (D0, PySem.W.listOf ws.toArray 0), (ld, o'), (s1.heap.objs.size + 1 + 1, ct), (s1.heap.objs.size + 1, oc)] := fun p hp => N8 p (.tail _ hp)
  clear N8
  (repeat' (first | (k_unfold; (try dsimp only)) | ((fail_if_success (with_reducible first | refine stop_at [76, 274, 281, 302, 307, 312, 258, 222, 166, 173, 295] (by decide) ?_ | refine stop_pi ?_ | refine stop_ne ?_ | refine stop_eq ?_ | refine stop_st (by decide) ?_ | refine stop_bl (by decide) ?_ | refine stop_lc ?_ | refine stop_jp ?_ | show LCg.CompSrc _ _ _ _ _ _ _ _ _ _ _ _ _ _ | show LCt.CompSrcT _ _ _ _ _ _ _ _ _ _ _ _ _ _ _)); (first | ((with_reducible refine stop_cr ?_); first | (k_here; (with_reducible show wpAny _ _ (call (Value.ref 269) _) _ _ _); k_dflt (refine' hewn_use ?B ?F ?X ?T ?hk ?N ?ho ?U ?hcl ?hi ?hl ?h0 ?h1 ?m0 ?m1 ?d ?u ?_; (case B => k_asm); (case F => k_asm); (case X => k_asm); (case T => k_asm); (case hk => exact rfl); (case N => k_asm); (case ho => assumption); (case U => k_updF); (case hcl => first | (with_reducible assumption) | exact isl_keep (by assumption) (Fr.keep (by k_asm)) | exact News.isList (by k_asm) (by k_mem)); (case hi => assumption); (case hl => assumption); (case h0 => omega); (case h1 => omega); (case m0 => first | decide | omega); (case m1 => first | decide | omega); (case d => first | exact room2 (by assumption) (by exact rfl) | exact room1 (by assumption) (by exact rfl) | omega | decide | (dsimp only [ktrTop]; omega)); (case u => first | exact room2 (by assumption) (by exact rfl) | exact room1 (by assumption) (by exact rfl) | omega | decide | (dsimp only [ktrTop]; omega))); intro _ _ _ _ _ _ _ _ _ _ _; ktr_rel)) | (k_here; (with_reducible show wpAny _ _ (subscriptTail _ _ (Value.ref _) (Value.int _ _)) _ _ _); k_dflt (refine' item0 ?t ?_; (case t => exact News.isList (by k_asm) (by k_mem)))) | ((with_reducible refine stop_cw ?_); k_dflt (refine' callWith_K0 (Frag.In.keeps KX (Fr.keep (by with_reducible assumption))) ?k2 ?_; (case k2 => k_is); k_whole)) | walk1 | (dsimp only; first | walk1 | (k_unfold; (try dsimp only)))))))
  rename Fr s1.heap _ _ _ => F10
  rename News s1.heap _ _ _ => N10
  rename_i h10 ct2 dct2
  try clear F8
  try clear N9
  refine with_toks ?_
  refine LCt.Assign_ListComp_T (F₀ := F10) (by rfl) (by with_unfolding_all rfl) (by with_unfolding_all rfl) (by decide) (by rfl) (by decide) (by rfl) (by rfl) (by rfl) ?_
  (repeat' (first | (k_unfold; (try dsimp only)) | ((fail_if_success (with_reducible first | refine stop_at [76, 274, 281, 302, 307, 312, 258, 222, 166, 173, 295] (by decide) ?_ | refine stop_pi ?_ | refine stop_ne ?_ | refine stop_eq ?_ | refine stop_st (by decide) ?_ | refine stop_bl (by decide) ?_ | refine stop_lc ?_ | refine stop_jp ?_ | show LCg.CompSrc _ _ _ _ _ _ _ _ _ _ _ _ _ _ | show LCt.CompSrcT _ _ _ _ _ _ _ _ _ _ _ _ _ _ _)); (first | ((with_reducible refine stop_cr ?_); first | (k_here; (with_reducible show wpAny _ _ (call (Value.ref 269) _) _ _ _); k_dflt (refine' hewn_use ?B ?F ?X ?T ?hk ?N ?ho ?U ?hcl ?hi ?hl ?h0 ?h1 ?m0 ?m1 ?d ?u ?_; (case B => k_asm); (case F => k_asm); (case X => k_asm); (case T => k_asm); (case hk => exact rfl); (case N => k_asm); (case ho => assumption); (case U => k_updF); (case hcl => first | (with_reducible assumption) | exact isl_keep (by assumption) (Fr.keep (by k_asm)) | exact News.isList (by k_asm) (by k_mem)); (case hi => assumption); (case hl => assumption); (case h0 => omega); (case h1 => omega); (case m0 => first | decide | omega); (case m1 => first | decide | omega); (case d => first | exact room2 (by assumption) (by exact rfl) | exact room1 (by assumption) (by exact rfl) | omega | decide | (dsimp only [ktrTop]; omega)); (case u => first | exact room2 (by assumption) (by exact rfl) | exact room1 (by assumption) (by exact rfl) | omega | decide | (dsimp only [ktrTop]; omega))); intro _ _ _ _ _ _ _ _ _ _ _; ktr_rel)) | (k_here; (with_reducible show wpAny _ _ (subscriptTail _ _ (Value.ref _) (Value.int _ _)) _ _ _); k_dflt (refine' item0 ?t ?_; (case t => exact News.isList (by k_asm) (by k_mem)))) | ((with_reducible refine stop_cw ?_); k_dflt (refine' callWith_K0 (Frag.In.keeps KX (Fr.keep (by with_reducible assumption))) ?k2 ?_; (case k2 => k_is); k_whole)) | walk1 | (dsimp only; first | walk1 | (k_unfold; (try dsimp only)))))))
  rename IsRange _ _ _ _ _ _ _ _ => hR
  rename Fr s1.heap _ _ _ => F11
  rename News s1.heap _ _ _ => N11
  refine' srcT_range (Inv := fun i ys nw => nw = [(Dc, PySem.W.listOf ws.toArray cc0), (D0, PySem.W.listOf ws.toArray 0), (ld, o'), (s1.heap.objs.size + 1 + 1, ct2), (s1.heap.objs.size + 1, oc)] ∧ IntsAre ys (filtR (fun k => baC (sgn text k)) i)) rfl F11 N11 hR (by omega) (by omega) ⟨rfl, .nil⟩ ?turn ?fin
  case turn =>
    intro g i ys nw v I oI C5 oC Dl m₂ h tk E' hi2 hI2 _ hP hC2 hx F N8 off ne
    obtain ⟨rfl, hys⟩ := hI2
    obtain ⟨ti, rfl⟩ := hP
    have hit : i < text.length := hi2
    have hit' : (i : Int) < text.length := Int.ofNat_lt.mpr hit
    clear F11 N11 hR
    (repeat' (first | (k_unfold; (try dsimp only)) | ((fail_if_success (with_reducible first | refine stop_at [76, 274, 281, 302, 307, 312, 258, 222, 166, 173, 295] (by decide) ?_ | refine stop_pi ?_ | refine stop_ne ?_ | refine stop_eq ?_ | refine stop_st (by decide) ?_ | refine stop_bl (by decide) ?_ | refine stop_lc ?_ | refine stop_jp ?_ | show LCg.CompSrc _ _ _ _ _ _ _ _ _ _ _ _ _ _ | show LCt.CompSrcT _ _ _ _ _ _ _ _ _ _ _ _ _ _ _)); (first | ((with_reducible refine stop_cr ?_); first | (k_here; (with_reducible show wpAny _ _ (call (Value.ref 269) _) _ _ _); k_dflt (refine' hewn_use ?B ?F ?X ?T ?hk ?N ?ho ?U ?hcl ?hi ?hl ?h0 ?h1 ?m0 ?m1 ?d ?u ?_; (case B => k_asm); (case F => k_asm); (case X => k_asm); (case T => k_asm); (case hk => exact rfl); (case N => k_asm); (case ho => assumption); (case U => k_updF); (case hcl => first | (with_reducible assumption) | exact isl_keep (by assumption) (Fr.keep (by k_asm)) | exact News.isList (by k_asm) (by k_mem)); (case hi => assumption); (case hl => assumption); (case h0 => omega); (case h1 => omega); (case m0 => first | decide | omega); (case m1 => first | decide | omega); (case d => first | exact room2 (by assumption) (by exact rfl) | exact room1 (by assumption) (by exact rfl) | omega | decide | (dsimp only [ktrTop]; omega)); (case u => first | exact room2 (by assumption) (by exact rfl) | exact room1 (by assumption) (by exact rfl) | omega | decide | (dsimp only [ktrTop]; omega))); intro _ _ _ _ _ _ _ _ _ _ _; ktr_rel)) | (k_here; (with_reducible show wpAny _ _ (subscriptTail _ _ (Value.ref _) (Value.int _ _)) _ _ _); k_dflt (refine' item0 ?t ?_; (case t => exact News.isList (by k_asm) (by k_mem)))) | ((with_reducible refine stop_cw ?_); k_dflt (refine' callWith_K0 (Frag.In.keeps KX (Fr.keep (by with_reducible assumption))) ?k2 ?_; (case k2 => k_is); k_whole)) | walk1 | (dsimp only; first | walk1 | (k_unfold; (try dsimp only)))))))
    · rename List.isEmpty _ = true => hp
      rw [item_sgn hit] at hp
      exact LCg.CompEnd.intro F N8 _ (fun _ h => h) off trivial ⟨rfl, ints_no hys (by unfold baC; rw [hp]; rfl)⟩
    · rename List.isEmpty _ = false => hp
      rw [item_sgn hit] at hp
      exact LCg.CompEnd.intro F N8 _ (fun _ h => h) off trivial ⟨rfl, ints_yes hys (by unfold baC; rw [hp]; rfl)⟩
  case fin =>
  intro g6 bad nw hI2
  obtain ⟨rfl, hbad⟩ := hI2
  clear F11 N11 hR
  unfold LCg.FinA
  intro Db h12 tk12 F12 N12 off12
  dsimp only
  intro ht2
  have hp2 : 0 < tk12 := Nat.lt_of_lt_of_le hp1 ht2
  have hb2 : (↑text.length : Int).toNat = text.length := Int.toNat_natCast _
  rw [hb2] at hbad
  (repeat' (first | (k_unfold; (try dsimp only)) | ((fail_if_success (with_reducible first | refine stop_at [76, 274, 281, 302, 307, 312, 258, 222, 166, 173, 295] (by decide) ?_ | refine stop_pi ?_ | refine stop_ne ?_ | refine stop_eq ?_ | refine stop_st (by decide) ?_ | refine stop_bl (by decide) ?_ | refine stop_lc ?_ | refine stop_jp ?_ | show LCg.CompSrc _ _ _ _ _ _ _ _ _ _ _ _ _ _ | show LCt.CompSrcT _ _ _ _ _ _ _ _ _ _ _ _ _ _ _)); (first | ((with_reducible refine stop_cr ?_); first | (k_here; (with_reducible show wpAny _ _ (call (Value.ref 269) _) _ _ _); k_dflt (refine' hewn_use ?B ?F ?X ?T ?hk ?N ?ho ?U ?hcl ?hi ?hl ?h0 ?h1 ?m0 ?m1 ?d ?u ?_; (case B => k_asm); (case F => k_asm); (case X => k_asm); (case T => k_asm); (case hk => exact rfl); (case N => k_asm); (case ho => assumption); (case U => k_updF); (case hcl => first | (with_reducible assumption) | exact isl_keep (by assumption) (Fr.keep (by k_asm)) | exact News.isList (by k_asm) (by k_mem)); (case hi => assumption); (case hl => assumption); (case h0 => omega); (case h1 => omega); (case m0 => first | decide | omega); (case m1 => first | decide | omega); (case d => first | exact room2 (by assumption) (by exact rfl) | exact room1 (by assumption) (by exact rfl) | omega | decide | (dsimp only [ktrTop]; omega)); (case u => first | exact room2 (by assumption) (by exact rfl) | exact room1 (by assumption) (by exact rfl) | omega | decide | (dsimp only [ktrTop]; omega))); intro _ _ _ _ _ _ _ _ _ _ _; ktr_rel)) | (k_here; (with_reducible show wpAny _ _ (subscriptTail _ _ (Value.ref _) (Value.int _ _)) _ _ _); k_dflt (refine' item0 ?t ?_; (case t => exact News.isList (by k_asm) (by k_mem)))) | ((with_reducible refine stop_cw ?_); k_dflt (refine' callWith_K0 (Frag.In.keeps KX (Fr.keep (by with_reducible assumption))) ?k2 ?_; (case k2 => k_is); k_whole)) | walk1 | (dsimp only; first | walk1 | (k_unfold; (try dsimp only)))))))
  refine with_toks ?_
  k_dflt (refine' cut_use (base := s1.heap) ⟨KB, F12, KX, TT, rfl⟩ N12 ?l ?d ?u ?_; (case l => first | assumption | exact Nat.le_trans (Nat.le_of_eq (by assumption)) (by assumption) | omega); (case d => first | exact room2 (by assumption) (by exact rfl) | exact room1 (by assumption) (by exact rfl) | omega | decide | (dsimp only [ktrTop]; omega)); (case u => first | exact room2 (by assumption) (by exact rfl) | exact room1 (by assumption) (by exact rfl) | omega | decide | (dsimp only [ktrTop]; omega)))
  intro Dd due nd tld h13 tk13 F13 N13 hdue
  dsimp only
  intro ht3
  have hp3 : 0 < tk13 := Nat.lt_of_lt_of_le hp2 ht3
  clear ht0 ht1 ht2 ht3 hp0 hp1 hp2
  have htl60 : text.length ≤ 60 := Nat.le_trans htl (by decide)
  have htlK : text.length ≤ 1000 := Nat.le_trans htl (by decide)
  dsimp only [List.cons_append, List.nil_append] at N13
  clear N12 off12
  (repeat' (first | (k_unfold; (try dsimp only)) | ((fail_if_success (with_reducible first | refine stop_at [76, 274, 281, 302, 307, 312, 258, 222, 166, 173, 295] (by decide) ?_ | refine stop_pi ?_ | refine stop_ne ?_ | refine stop_eq ?_ | refine stop_st (by decide) ?_ | refine stop_bl (by decide) ?_ | refine stop_lc ?_ | refine stop_jp ?_ | show LCg.CompSrc _ _ _ _ _ _ _ _ _ _ _ _ _ _ | show LCt.CompSrcT _ _ _ _ _ _ _ _ _ _ _ _ _ _ _)); (first | ((with_reducible refine stop_cr ?_); first | (k_here; (with_reducible show wpAny _ _ (call (Value.ref 269) _) _ _ _); k_dflt (refine' hewn_use ?B ?F ?X ?T ?hk ?N ?ho ?U ?hcl ?hi ?hl ?h0 ?h1 ?m0 ?m1 ?d ?u ?_; (case B => k_asm); (case F => k_asm); (case X => k_asm); (case T => k_asm); (case hk => exact rfl); (case N => k_asm); (case ho => assumption); (case U => k_updF); (case hcl => first | (with_reducible assumption) | exact isl_keep (by assumption) (Fr.keep (by k_asm)) | exact News.isList (by k_asm) (by k_mem)); (case hi => assumption); (case hl => assumption); (case h0 => omega); (case h1 => omega); (case m0 => first | decide | omega); (case m1 => first | decide | omega); (case d => first | exact room2 (by assumption) (by exact rfl) | exact room1 (by assumption) (by exact rfl) | omega | decide | (dsimp only [ktrTop]; omega)); (case u => first | exact room2 (by assumption) (by exact rfl) | exact room1 (by assumption) (by exact rfl) | omega | decide | (dsimp only [ktrTop]; omega))); intro _ _ _ _ _ _ _ _ _ _ _; ktr_rel)) | (k_here; (with_reducible show wpAny _ _ (subscriptTail _ _ (Value.ref _) (Value.int _ _)) _ _ _); k_dflt (refine' item0 ?t ?_; (case t => exact News.isList (by k_asm) (by k_mem)))) | ((with_reducible refine stop_cw ?_); k_dflt (refine' callWith_K0 (Frag.In.keeps KX (Fr.keep (by with_reducible assumption))) ?k2 ?_; (case k2 => k_is); k_whole)) | walk1 | (dsimp only; first | walk1 | (k_unfold; (try dsimp only)))))))
  rename Fr s1.heap _ _ _ => F14
  rename News s1.heap _ _ _ => N14
  refine with_toks ?_
  refine' For_turns F14 ?_
  (repeat' (first | (k_unfold; (try dsimp only)) | ((fail_if_success (with_reducible first | refine stop_at [76, 274, 281, 302, 307, 312, 258, 222, 166, 173, 295] (by decide) ?_ | refine stop_pi ?_ | refine stop_ne ?_ | refine stop_eq ?_ | refine stop_st (by decide) ?_ | refine stop_bl (by decide) ?_ | refine stop_lc ?_ | refine stop_jp ?_ | show LCg.CompSrc _ _ _ _ _ _ _ _ _ _ _ _ _ _ | show LCt.CompSrcT _ _ _ _ _ _ _ _ _ _ _ _ _ _ _)); (first | ((with_reducible refine stop_cr ?_); first | (k_here; (with_reducible show wpAny _ _ (call (Value.ref 269) _) _ _ _); k_dflt (refine' hewn_use ?B ?F ?X ?T ?hk ?N ?ho ?U ?hcl ?hi ?hl ?h0 ?h1 ?m0 ?m1 ?d ?u ?_; (case B => k_asm); (case F => k_asm); (case X => k_asm); (case T => k_asm); (case hk => exact rfl); (case N => k_asm); (case ho => assumption); (case U => k_updF); (case hcl => first | (with_reducible assumption) | exact isl_keep (by assumption) (Fr.keep (by k_asm)) | exact News.isList (by k_asm) (by k_mem)); (case hi => assumption); (case hl => assumption); (case h0 => omega); (case h1 => omega); (case m0 => first | decide | omega); (case m1 => first | decide | omega); (case d => first | exact room2 (by assumption) (by exact rfl) | exact room1 (by assumption) (by exact rfl) | omega | decide | (dsimp only [ktrTop]; omega)); (case u => first | exact room2 (by assumption) (by exact rfl) | exact room1 (by assumption) (by exact rfl) | omega | decide | (dsimp only [ktrTop]; omega))); intro _ _ _ _ _ _ _ _ _ _ _; ktr_rel)) | (k_here; (with_reducible show wpAny _ _ (subscriptTail _ _ (Value.ref _) (Value.int _ _)) _ _ _); k_dflt (refine' item0 ?t ?_; (case t => exact News.isList (by k_asm) (by k_mem)))) | ((with_reducible refine stop_cw ?_); k_dflt (refine' callWith_K0 (Frag.In.keeps KX (Fr.keep (by with_reducible assumption))) ?k2 ?_; (case k2 => k_is); k_whole)) | walk1 | (dsimp only; first | walk1 | (k_unfold; (try dsimp only)))))))
  refine swap_use (c := 91) (d := 123) (by first | rfl | decide +kernel) (by first | rfl | decide +kernel) (by decide +kernel) (by show @Ne Nat _ _; first | exact Nat.succ_ne_zero _ | exact Nat.ne_of_gt (Nat.lt_of_lt_of_le (Nat.succ_pos _) (by assumption)) | exact Nat.ne_of_gt (by assumption) | omega) (by show @Ne Nat _ _; first | exact Nat.succ_ne_zero _ | exact Nat.ne_of_gt (Nat.lt_of_lt_of_le (Nat.succ_pos _) (by assumption)) | exact Nat.ne_of_gt (by assumption) | omega) (by show @Ne Nat _ _; first | exact Nat.ne_of_lt (Nat.lt_succ_self _) | omega) (by first | assumption | exact Nat.le_trans (Nat.le_of_eq (by assumption)) (by assumption) | exact Nat.le_trans (by assumption) (by assumption) | omega) (fun t15 k15 ht15 => ?_)
  dsimp only at ht15
  (repeat' (first | (k_unfold; (try dsimp only)) | ((fail_if_success (with_reducible first | refine stop_at [76, 274, 281, 302, 307, 312, 258, 222, 166, 173, 295] (by decide) ?_ | refine stop_pi ?_ | refine stop_ne ?_ | refine stop_eq ?_ | refine stop_st (by decide) ?_ | refine stop_bl (by decide) ?_ | refine stop_lc ?_ | refine stop_jp ?_ | show LCg.CompSrc _ _ _ _ _ _ _ _ _ _ _ _ _ _ | show LCt.CompSrcT _ _ _ _ _ _ _ _ _ _ _ _ _ _ _)); (first | ((with_reducible refine stop_cr ?_); first | (k_here; (with_reducible show wpAny _ _ (call (Value.ref 269) _) _ _ _); k_dflt (refine' hewn_use ?B ?F ?X ?T ?hk ?N ?ho ?U ?hcl ?hi ?hl ?h0 ?h1 ?m0 ?m1 ?d ?u ?_; (case B => k_asm); (case F => k_asm); (case X => k_asm); (case T => k_asm); (case hk => exact rfl); (case N => k_asm); (case ho => assumption); (case U => k_updF); (case hcl => first | (with_reducible assumption) | exact isl_keep (by assumption) (Fr.keep (by k_asm)) | exact News.isList (by k_asm) (by k_mem)); (case hi => assumption); (case hl => assumption); (case h0 => omega); (case h1 => omega); (case m0 => first | decide | omega); (case m1 => first | decide | omega); (case d => first | exact room2 (by assumption) (by exact rfl) | exact room1 (by assumption) (by exact rfl) | omega | decide | (dsimp only [ktrTop]; omega)); (case u => first | exact room2 (by assumption) (by exact rfl) | exact room1 (by assumption) (by exact rfl) | omega | decide | (dsimp only [ktrTop]; omega))); intro _ _ _ _ _ _ _ _ _ _ _; ktr_rel)) | (k_here; (with_reducible show wpAny _ _ (subscriptTail _ _ (Value.ref _) (Value.int _ _)) _ _ _); k_dflt (refine' item0 ?t ?_; (case t => exact News.isList (by k_asm) (by k_mem)))) | ((with_reducible refine stop_cw ?_); k_dflt (refine' callWith_K0 (Frag.In.keeps KX (Fr.keep (by with_reducible assumption))) ?k2 ?_; (case k2 => k_is); k_whole)) | walk1 | (dsimp only; first | walk1 | (k_unfold; (try dsimp only)))))))
  have hsl1 := swap_len 91 123 text
  refine swap_use (c := 125) (d := 93) (by first | rfl | decide +kernel) (by first | rfl | decide +kernel) (by decide +kernel) (by show @Ne Nat _ _; first | exact Nat.succ_ne_zero _ | exact Nat.ne_of_gt (Nat.lt_of_lt_of_le (Nat.succ_pos _) (by assumption)) | exact Nat.ne_of_gt (by assumption) | omega) (by show @Ne Nat _ _; first | exact Nat.succ_ne_zero _ | exact Nat.ne_of_gt (Nat.lt_of_lt_of_le (Nat.succ_pos _) (by assumption)) | exact Nat.ne_of_gt (by assumption) | omega) (by show @Ne Nat _ _; first | exact Nat.ne_of_lt (Nat.lt_succ_self _) | omega) (by first | assumption | exact Nat.le_trans (Nat.le_of_eq (by assumption)) (by assumption) | exact Nat.le_trans (by assumption) (by assumption) | omega) (fun t16 k16 ht16 => ?_)
  dsimp only at ht16
  have hsl2 := swap_len 125 93 (swapS 91 123 text)
  (repeat' (first | (k_unfold; (try dsimp only)) | ((fail_if_success (with_reducible first | refine stop_at [76, 274, 281, 302, 307, 312, 258, 222, 166, 173, 295] (by decide) ?_ | refine stop_pi ?_ | refine stop_ne ?_ | refine stop_eq ?_ | refine stop_st (by decide) ?_ | refine stop_bl (by decide) ?_ | refine stop_lc ?_ | refine stop_jp ?_ | show LCg.CompSrc _ _ _ _ _ _ _ _ _ _ _ _ _ _ | show LCt.CompSrcT _ _ _ _ _ _ _ _ _ _ _ _ _ _ _)); (first | ((with_reducible refine stop_cr ?_); first | (k_here; (with_reducible show wpAny _ _ (call (Value.ref 269) _) _ _ _); k_dflt (refine' hewn_use ?B ?F ?X ?T ?hk ?N ?ho ?U ?hcl ?hi ?hl ?h0 ?h1 ?m0 ?m1 ?d ?u ?_; (case B => k_asm); (case F => k_asm); (case X => k_asm); (case T => k_asm); (case hk => exact rfl); (case N => k_asm); (case ho => assumption); (case U => k_updF); (case hcl => first | (with_reducible assumption) | exact isl_keep (by assumption) (Fr.keep (by k_asm)) | exact News.isList (by k_asm) (by k_mem)); (case hi => assumption); (case hl => assumption); (case h0 => omega); (case h1 => omega); (case m0 => first | decide | omega); (case m1 => first | decide | omega); (case d => first | exact room2 (by assumption) (by exact rfl) | exact room1 (by assumption) (by exact rfl) | omega | decide | (dsimp only [ktrTop]; omega)); (case u => first | exact room2 (by assumption) (by exact rfl) | exact room1 (by assumption) (by exact rfl) | omega | decide | (dsimp only [ktrTop]; omega))); intro _ _ _ _ _ _ _ _ _ _ _; ktr_rel)) | (k_here; (with_reducible show wpAny _ _ (subscriptTail _ _ (Value.ref _) (Value.int _ _)) _ _ _); k_dflt (refine' item0 ?t ?_; (case t => exact News.isList (by k_asm) (by k_mem)))) | ((with_reducible refine stop_cw ?_); k_dflt (refine' callWith_K0 (Frag.In.keeps KX (Fr.keep (by with_reducible assumption))) ?k2 ?_; (case k2 => k_is); k_whole)) | walk1 | (dsimp only; first | walk1 | (k_unfold; (try dsimp only)))))))
  rename Fr s1.heap _ _ _ => F17
  rename News s1.heap _ _ _ => N17
  rename_i D17 h17 l17
  obtain ⟨text2, htext2, htl2⟩ : ∃ text2 : PySem.Str, text2 = swapS 125 93 (swapS 91 123 text) ∧ text2.length = text.length := ⟨_, rfl, hsl2.trans hsl1⟩
  rw [← htext2] at N17
  have hU : ∀ u : PySem.Str, u = text ∨ u = text2 → u.length = text.length ∧ (∀ k, k < text.length → goodC (sgn u k) = !baC (sgn text k)) ∧ ((∀ k, k < text.length → baC (sgn text k) = false) → wordsT u = cutT text) := by
    subst htext2
    exact lawU htc
  refine turns_tup (n := 0) (vs := [.str text tj, .str text2 t16]) rfl F17 N17 (N17.isTup (.head _)) ⟨_, .head _⟩ (fun i m₁ news₁ => news₁ = (D17, ({ cls := .type "tuple", data := .seq #[.str text tj, .str text2 t16] } : Obj)) :: (Dd, PySem.W.listOf due.toArray nd) :: (Db, LCg.lst bad) :: (Dc, PySem.W.listOf ws.toArray cc0) :: (D0, PySem.W.listOf ws.toArray 0) :: (ld, o') :: (s1.heap.objs.size + 1 + 1, ct2) :: (s1.heap.objs.size + 1, oc) :: tld ∧ ∃ v, m₁ = fun y => if y = Str.ofString "late" then v else if y = Str.ofString "due" then some (Value.ref Dd) else if y = Str.ofString "bad" then some (Value.ref Db) else m0 y) ⟨rfl, m0 (Str.ofString "late"), ?j0⟩ ?turn ?done
  case j0 =>
    funext y
    by_cases e : y = Str.ofString "late"
    · subst e
      exact (if_pos rfl).symm
    · exact (if_neg e).symm
  case turn =>
    intro i v m₁ news₁ h₁ tk₁ own wr hv hJ hoff F N
    obtain ⟨rfl, v0, rfl⟩ := hJ
    clear F17 N17
    obtain ⟨u, tu, rfl, hu0⟩ : ∃ u tu, v = .str u tu ∧ (u = text ∨ u = text2) := by
      rcases i with _ | _ | i
      · exact ⟨text, tj, (Option.some.inj hv).symm, .inl rfl⟩
      · exact ⟨text2, t16, (Option.some.inj hv).symm, .inr rfl⟩
      · cases hv
    obtain ⟨hul, hug, huw⟩ := hU u hu0
    (repeat' (first | (k_unfold; (try dsimp only)) | ((fail_if_success (with_reducible first | refine stop_at [76, 274, 281, 302, 307, 312, 258, 222, 166, 173, 295] (by decide) ?_ | refine stop_pi ?_ | refine stop_ne ?_ | refine stop_eq ?_ | refine stop_st (by decide) ?_ | refine stop_bl (by decide) ?_ | refine stop_lc ?_ | refine stop_jp ?_ | show LCg.CompSrc _ _ _ _ _ _ _ _ _ _ _ _ _ _ | show LCt.CompSrcT _ _ _ _ _ _ _ _ _ _ _ _ _ _ _)); (first | ((with_reducible refine stop_cr ?_); first | (k_here; (with_reducible show wpAny _ _ (call (Value.ref 269) _) _ _ _); k_dflt (refine' hewn_use ?B ?F ?X ?T ?hk ?N ?ho ?U ?hcl ?hi ?hl ?h0 ?h1 ?m0 ?m1 ?d ?u ?_; (case B => k_asm); (case F => k_asm); (case X => k_asm); (case T => k_asm); (case hk => exact rfl); (case N => k_asm); (case ho => assumption); (case U => k_updF); (case hcl => first | (with_reducible assumption) | exact isl_keep (by assumption) (Fr.keep (by k_asm)) | exact News.isList (by k_asm) (by k_mem)); (case hi => assumption); (case hl => assumption); (case h0 => omega); (case h1 => omega); (case m0 => first | decide | omega); (case m1 => first | decide | omega); (case d => first | exact room2 (by assumption) (by exact rfl) | exact room1 (by assumption) (by exact rfl) | omega | decide | (dsimp only [ktrTop]; omega)); (case u => first | exact room2 (by assumption) (by exact rfl) | exact room1 (by assumption) (by exact rfl) | omega | decide | (dsimp only [ktrTop]; omega))); intro _ _ _ _ _ _ _ _ _ _ _; ktr_rel)) | (k_here; (with_reducible show wpAny _ _ (subscriptTail _ _ (Value.ref _) (Value.int _ _)) _ _ _); k_dflt (refine' item0 ?t ?_; (case t => exact News.isList (by k_asm) (by k_mem)))) | ((with_reducible refine stop_cw ?_); k_dflt (refine' callWith_K0 (Frag.In.keeps KX (Fr.keep (by with_reducible assumption))) ?k2 ?_; (case k2 => k_is); k_whole)) | walk1 | (dsimp only; first | walk1 | (k_unfold; (try dsimp only)))))))
    rename Fr s1.heap _ _ _ => F20
    rename News s1.heap _ _ _ => N20a
    have N20 : News s1.heap s1.heap.objs.size _ ((D17, ({ cls := .type "tuple", data := .seq #[.str text tj, .str text2 t16] } : Obj)) :: (Dd, PySem.W.listOf due.toArray nd) :: (Db, LCg.lst bad) :: (Dc, PySem.W.listOf ws.toArray cc0) :: (D0, PySem.W.listOf ws.toArray 0) :: (ld, o') :: (s1.heap.objs.size + 1 + 1, ct2) :: (s1.heap.objs.size + 1, oc) :: (tld ++ own)) := fun p hp => N20a p (sub_rot own [_, _, _, _, _, _, _, _] tld p hp)
    clear F N N20a
    k_dflt (refine' told_use (base := s1.heap) KX TT ⟨KB, F20, KX, TT, rfl⟩ N20 ?l ?d ?u ?_ ?_; (case l => first | assumption | exact Nat.le_trans (Nat.le_of_eq (by assumption)) (by assumption) | omega); (case d => first | exact room2 (by assumption) (by exact rfl) | exact room1 (by assumption) (by exact rfl) | omega | decide | (dsimp only [ktrTop]; omega)); (case u => first | exact room2 (by assumption) (by exact rfl) | exact room1 (by assumption) (by exact rfl) | omega | decide | (dsimp only [ktrTop]; omega)))
    · intro hg r rs rn rtl h21 tk21 F21 N21 hrT
      have hnb : ∀ k, k < text.length → baC (sgn text k) = false := fun k hk => by
        have h1 := hug k hk
        rw [hg k (Nat.lt_of_lt_of_eq hk hul.symm)] at h1
        simpa using h1.symm
      rw [huw hnb] at hrT
      obtain rfl : bad = [] := ints_none hbad hnb
      dsimp only [List.cons_append, List.nil_append] at N21
      clear N20 F20
      (repeat' (first | (k_unfold; (try dsimp only)) | ((fail_if_success (with_reducible first | refine stop_at [76, 274, 281, 302, 307, 312, 258, 222, 166, 173, 295] (by decide) ?_ | refine stop_pi ?_ | refine stop_ne ?_ | refine stop_eq ?_ | refine stop_st (by decide) ?_ | refine stop_bl (by decide) ?_ | refine stop_lc ?_ | refine stop_jp ?_ | show LCg.CompSrc _ _ _ _ _ _ _ _ _ _ _ _ _ _ | show LCt.CompSrcT _ _ _ _ _ _ _ _ _ _ _ _ _ _ _)); (first | ((with_reducible refine stop_cr ?_); first | (k_here; (with_reducible show wpAny _ _ (call (Value.ref 269) _) _ _ _); k_dflt (refine' hewn_use ?B ?F ?X ?T ?hk ?N ?ho ?U ?hcl ?hi ?hl ?h0 ?h1 ?m0 ?m1 ?d ?u ?_; (case B => k_asm); (case F => k_asm); (case X => k_asm); (case T => k_asm); (case hk => exact rfl); (case N => k_asm); (case ho => assumption); (case U => k_updF); (case hcl => first | (with_reducible assumption) | exact isl_keep (by assumption) (Fr.keep (by k_asm)) | exact News.isList (by k_asm) (by k_mem)); (case hi => assumption); (case hl => assumption); (case h0 => omega); (case h1 => omega); (case m0 => first | decide | omega); (case m1 => first | decide | omega); (case d => first | exact room2 (by assumption) (by exact rfl) | exact room1 (by assumption) (by exact rfl) | omega | decide | (dsimp only [ktrTop]; omega)); (case u => first | exact room2 (by assumption) (by exact rfl) | exact room1 (by assumption) (by exact rfl) | omega | decide | (dsimp only [ktrTop]; omega))); intro _ _ _ _ _ _ _ _ _ _ _; ktr_rel)) | (k_here; (with_reducible show wpAny _ _ (subscriptTail _ _ (Value.ref _) (Value.int _ _)) _ _ _); k_dflt (refine' item0 ?t ?_; (case t => exact News.isList (by k_asm) (by k_mem)))) | ((with_reducible refine stop_cw ?_); k_dflt (refine' callWith_K0 (Frag.In.keeps KX (Fr.keep (by with_reducible assumption))) ?k2 ?_; (case k2 => k_is); k_whole)) | walk1 | (dsimp only; first | walk1 | (k_unfold; (try dsimp only)))))))
      as_aux_lemma =>
        rename Fr s1.heap _ _ _ => F22
        rename News s1.heap _ _ _ => N22
        refine ne_nil_nil (N22.isList (by k_dflt k_mem)) (N22.isList (by k_dflt k_mem)) (by first | decide | (dsimp; decide)) ?_
        (repeat' (first | (k_unfold; (try dsimp only)) | ((fail_if_success (with_reducible first | refine stop_at [76, 274, 281, 302, 307, 312, 258, 222, 166, 173, 295] (by decide) ?_ | refine stop_pi ?_ | refine stop_ne ?_ | refine stop_eq ?_ | refine stop_st (by decide) ?_ | refine stop_bl (by decide) ?_ | refine stop_lc ?_ | refine stop_jp ?_ | show LCg.CompSrc _ _ _ _ _ _ _ _ _ _ _ _ _ _ | show LCt.CompSrcT _ _ _ _ _ _ _ _ _ _ _ _ _ _ _)); (first | ((with_reducible refine stop_cr ?_); first | (k_here; (with_reducible show wpAny _ _ (call (Value.ref 269) _) _ _ _); k_dflt (refine' hewn_use ?B ?F ?X ?T ?hk ?N ?ho ?U ?hcl ?hi ?hl ?h0 ?h1 ?m0 ?m1 ?d ?u ?_; (case B => k_asm); (case F => k_asm); (case X => k_asm); (case T => k_asm); (case hk => exact rfl); (case N => k_asm); (case ho => assumption); (case U => k_updF); (case hcl => first | (with_reducible assumption) | exact isl_keep (by assumption) (Fr.keep (by k_asm)) | exact News.isList (by k_asm) (by k_mem)); (case hi => assumption); (case hl => assumption); (case h0 => omega); (case h1 => omega); (case m0 => first | decide | omega); (case m1 => first | decide | omega); (case d => first | exact room2 (by assumption) (by exact rfl) | exact room1 (by assumption) (by exact rfl) | omega | decide | (dsimp only [ktrTop]; omega)); (case u => first | exact room2 (by assumption) (by exact rfl) | exact room1 (by assumption) (by exact rfl) | omega | decide | (dsimp only [ktrTop]; omega))); intro _ _ _ _ _ _ _ _ _ _ _; ktr_rel)) | (k_here; (with_reducible show wpAny _ _ (subscriptTail _ _ (Value.ref _) (Value.int _ _)) _ _ _); k_dflt (refine' item0 ?t ?_; (case t => exact News.isList (by k_asm) (by k_mem)))) | ((with_reducible refine stop_cw ?_); k_dflt (refine' callWith_K0 (Frag.In.keeps KX (Fr.keep (by with_reducible assumption))) ?k2 ?_; (case k2 => k_is); k_whole)) | walk1 | (dsimp only; first | walk1 | (k_unfold; (try dsimp only)))))))
        rename Fr s1.heap _ _ _ => F23
        rename News s1.heap _ _ _ => N23
        refine ne_words (by first | decide | (dsimp; decide)) (N23 _ (.tail _ (.head _))).1 (N23 _ (.tail _ (.tail _ (.tail _ (.head _))))).1 (fun p hp => (N23 p (sub_skip (sub_skip (sub_lr (k := [_, _, _, _, _, _, _, _]) sub_r)) p hp)).1) (fun p hp => (N23 p (sub_skip (sub_skip (sub_lr (k := [_, _, _, _, _, _, _, _]) (sub_ll sub_l))) p hp)).1) hrT hdue ?_
        (repeat' (first | (k_unfold; (try dsimp only)) | ((fail_if_success (with_reducible first | refine stop_at [76, 274, 281, 302, 307, 312, 258, 222, 166, 173, 295] (by decide) ?_ | refine stop_pi ?_ | refine stop_ne ?_ | refine stop_eq ?_ | refine stop_st (by decide) ?_ | refine stop_bl (by decide) ?_ | refine stop_lc ?_ | refine stop_jp ?_ | show LCg.CompSrc _ _ _ _ _ _ _ _ _ _ _ _ _ _ | show LCt.CompSrcT _ _ _ _ _ _ _ _ _ _ _ _ _ _ _)); (first | ((with_reducible refine stop_cr ?_); first | (k_here; (with_reducible show wpAny _ _ (call (Value.ref 269) _) _ _ _); k_dflt (refine' hewn_use ?B ?F ?X ?T ?hk ?N ?ho ?U ?hcl ?hi ?hl ?h0 ?h1 ?m0 ?m1 ?d ?u ?_; (case B => k_asm); (case F => k_asm); (case X => k_asm); (case T => k_asm); (case hk => exact rfl); (case N => k_asm); (case ho => assumption); (case U => k_updF); (case hcl => first | (with_reducible assumption) | exact isl_keep (by assumption) (Fr.keep (by k_asm)) | exact News.isList (by k_asm) (by k_mem)); (case hi => assumption); (case hl => assumption); (case h0 => omega); (case h1 => omega); (case m0 => first | decide | omega); (case m1 => first | decide | omega); (case d => first | exact room2 (by assumption) (by exact rfl) | exact room1 (by assumption) (by exact rfl) | omega | decide | (dsimp only [ktrTop]; omega)); (case u => first | exact room2 (by assumption) (by exact rfl) | exact room1 (by assumption) (by exact rfl) | omega | decide | (dsimp only [ktrTop]; omega))); intro _ _ _ _ _ _ _ _ _ _ _; ktr_rel)) | (k_here; (with_reducible show wpAny _ _ (subscriptTail _ _ (Value.ref _) (Value.int _ _)) _ _ _); k_dflt (refine' item0 ?t ?_; (case t => exact News.isList (by k_asm) (by k_mem)))) | ((with_reducible refine stop_cw ?_); k_dflt (refine' callWith_K0 (Frag.In.keeps KX (Fr.keep (by with_reducible assumption))) ?k2 ?_; (case k2 => k_is); k_whole)) | walk1 | (dsimp only; first | walk1 | (k_unfold; (try dsimp only)))))))
        refine LoopStepU.intro F23 (fun p hp => N23 p ?_) hoff ⟨rfl, some (.str u tu), ?_⟩
        · exact sub_skip (sub_skip (sub_rot2 own [_, _, _, _, _, _, _, _] tld rtl)) p hp
        · funext y
          by_cases e : y = Str.ofString "late"
          · rw [if_pos e, if_pos e]
          · rw [if_neg e, if_neg e, if_neg e]
    · intro i1 hi1 hb1 hg1 h21 tk21 ti F21 N21
      obtain ⟨tb, bad', rfl⟩ : ∃ tb bad', bad = .int i1 tb :: bad' := ints_first (k := i1) hbad (Nat.lt_of_lt_of_eq hi1 hul) (by
        have h1 := hug i1 (Nat.lt_of_lt_of_eq hi1 hul)
        rw [hb1] at h1
        simpa using h1.symm) (fun k hk => by
        have h1 := hug k (Nat.lt_trans hk (Nat.lt_of_lt_of_eq hi1 hul))
        rw [hg1 k hk] at h1
        simpa using h1.symm)
      clear N20 F20
      (repeat' (first | (k_unfold; (try dsimp only)) | ((fail_if_success (with_reducible first | refine stop_at [76, 274, 281, 302, 307, 312, 258, 222, 166, 173, 295] (by decide) ?_ | refine stop_pi ?_ | refine stop_ne ?_ | refine stop_eq ?_ | refine stop_st (by decide) ?_ | refine stop_bl (by decide) ?_ | refine stop_lc ?_ | refine stop_jp ?_ | show LCg.CompSrc _ _ _ _ _ _ _ _ _ _ _ _ _ _ | show LCt.CompSrcT _ _ _ _ _ _ _ _ _ _ _ _ _ _ _)); (first | ((with_reducible refine stop_cr ?_); first | (k_here; (with_reducible show wpAny _ _ (call (Value.ref 269) _) _ _ _); k_dflt (refine' hewn_use ?B ?F ?X ?T ?hk ?N ?ho ?U ?hcl ?hi ?hl ?h0 ?h1 ?m0 ?m1 ?d ?u ?_; (case B => k_asm); (case F => k_asm); (case X => k_asm); (case T => k_asm); (case hk => exact rfl); (case N => k_asm); (case ho => assumption); (case U => k_updF); (case hcl => first | (with_reducible assumption) | exact isl_keep (by assumption) (Fr.keep (by k_asm)) | exact News.isList (by k_asm) (by k_mem)); (case hi => assumption); (case hl => assumption); (case h0 => omega); (case h1 => omega); (case m0 => first | decide | omega); (case m1 => first | decide | omega); (case d => first | exact room2 (by assumption) (by exact rfl) | exact room1 (by assumption) (by exact rfl) | omega | decide | (dsimp only [ktrTop]; omega)); (case u => first | exact room2 (by assumption) (by exact rfl) | exact room1 (by assumption) (by exact rfl) | omega | decide | (dsimp only [ktrTop]; omega))); intro _ _ _ _ _ _ _ _ _ _ _; ktr_rel)) | (k_here; (with_reducible show wpAny _ _ (subscriptTail _ _ (Value.ref _) (Value.int _ _)) _ _ _); k_dflt (refine' item0 ?t ?_; (case t => exact News.isList (by k_asm) (by k_mem)))) | ((with_reducible refine stop_cw ?_); k_dflt (refine' callWith_K0 (Frag.In.keeps KX (Fr.keep (by with_reducible assumption))) ?k2 ?_; (case k2 => k_is); k_whole)) | walk1 | (dsimp only; first | walk1 | (k_unfold; (try dsimp only)))))))
      as_aux_lemma =>
        rename Fr s1.heap _ _ _ => F22
        rename News s1.heap _ _ _ => N22
        refine ne_cons_nil (N22.isList (by k_dflt k_mem)) (N22.isList (by k_dflt k_mem)) (by first | decide | (dsimp; decide)) ?_
        (repeat' (first | (k_unfold; (try dsimp only)) | ((fail_if_success (with_reducible first | refine stop_at [76, 274, 281, 302, 307, 312, 258, 222, 166, 173, 295] (by decide) ?_ | refine stop_pi ?_ | refine stop_ne ?_ | refine stop_eq ?_ | refine stop_st (by decide) ?_ | refine stop_bl (by decide) ?_ | refine stop_lc ?_ | refine stop_jp ?_ | show LCg.CompSrc _ _ _ _ _ _ _ _ _ _ _ _ _ _ | show LCt.CompSrcT _ _ _ _ _ _ _ _ _ _ _ _ _ _ _)); (first | ((with_reducible refine stop_cr ?_); first | (k_here; (with_reducible show wpAny _ _ (call (Value.ref 269) _) _ _ _); k_dflt (refine' hewn_use ?B ?F ?X ?T ?hk ?N ?ho ?U ?hcl ?hi ?hl ?h0 ?h1 ?m0 ?m1 ?d ?u ?_; (case B => k_asm); (case F => k_asm); (case X => k_asm); (case T => k_asm); (case hk => exact rfl); (case N => k_asm); (case ho => assumption); (case U => k_updF); (case hcl => first | (with_reducible assumption) | exact isl_keep (by assumption) (Fr.keep (by k_asm)) | exact News.isList (by k_asm) (by k_mem)); (case hi => assumption); (case hl => assumption); (case h0 => omega); (case h1 => omega); (case m0 => first | decide | omega); (case m1 => first | decide | omega); (case d => first | exact room2 (by assumption) (by exact rfl) | exact room1 (by assumption) (by exact rfl) | omega | decide | (dsimp only [ktrTop]; omega)); (case u => first | exact room2 (by assumption) (by exact rfl) | exact room1 (by assumption) (by exact rfl) | omega | decide | (dsimp only [ktrTop]; omega))); intro _ _ _ _ _ _ _ _ _ _ _; ktr_rel)) | (k_here; (with_reducible show wpAny _ _ (subscriptTail _ _ (Value.ref _) (Value.int _ _)) _ _ _); k_dflt (refine' item0 ?t ?_; (case t => exact News.isList (by k_asm) (by k_mem)))) | ((with_reducible refine stop_cw ?_); k_dflt (refine' callWith_K0 (Frag.In.keeps KX (Fr.keep (by with_reducible assumption))) ?k2 ?_; (case k2 => k_is); k_whole)) | walk1 | (dsimp only; first | walk1 | (k_unfold; (try dsimp only)))))))
        rename Fr s1.heap _ _ _ => F23
        rename News s1.heap _ _ _ => N23
        refine ne_int_int ?_
        (repeat' (first | (k_unfold; (try dsimp only)) | ((fail_if_success (with_reducible first | refine stop_at [76, 274, 281, 302, 307, 312, 258, 222, 166, 173, 295] (by decide) ?_ | refine stop_pi ?_ | refine stop_ne ?_ | refine stop_eq ?_ | refine stop_st (by decide) ?_ | refine stop_bl (by decide) ?_ | refine stop_lc ?_ | refine stop_jp ?_ | show LCg.CompSrc _ _ _ _ _ _ _ _ _ _ _ _ _ _ | show LCt.CompSrcT _ _ _ _ _ _ _ _ _ _ _ _ _ _ _)); (first | ((with_reducible refine stop_cr ?_); first | (k_here; (with_reducible show wpAny _ _ (call (Value.ref 269) _) _ _ _); k_dflt (refine' hewn_use ?B ?F ?X ?T ?hk ?N ?ho ?U ?hcl ?hi ?hl ?h0 ?h1 ?m0 ?m1 ?d ?u ?_; (case B => k_asm); (case F => k_asm); (case X => k_asm); (case T => k_asm); (case hk => exact rfl); (case N => k_asm); (case ho => assumption); (case U => k_updF); (case hcl => first | (with_reducible assumption) | exact isl_keep (by assumption) (Fr.keep (by k_asm)) | exact News.isList (by k_asm) (by k_mem)); (case hi => assumption); (case hl => assumption); (case h0 => omega); (case h1 => omega); (case m0 => first | decide | omega); (case m1 => first | decide | omega); (case d => first | exact room2 (by assumption) (by exact rfl) | exact room1 (by assumption) (by exact rfl) | omega | decide | (dsimp only [ktrTop]; omega)); (case u => first | exact room2 (by assumption) (by exact rfl) | exact room1 (by assumption) (by exact rfl) | omega | decide | (dsimp only [ktrTop]; omega))); intro _ _ _ _ _ _ _ _ _ _ _; ktr_rel)) | (k_here; (with_reducible show wpAny _ _ (subscriptTail _ _ (Value.ref _) (Value.int _ _)) _ _ _); k_dflt (refine' item0 ?t ?_; (case t => exact News.isList (by k_asm) (by k_mem)))) | ((with_reducible refine stop_cw ?_); k_dflt (refine' callWith_K0 (Frag.In.keeps KX (Fr.keep (by with_reducible assumption))) ?k2 ?_; (case k2 => k_is); k_whole)) | walk1 | (dsimp only; first | walk1 | (k_unfold; (try dsimp only)))))))
        refine LoopStepU.intro F23 (fun p hp => N23 p ?_) hoff ⟨rfl, some (.str u tu), ?_⟩
        · exact sub_skip (sub_rot3 own [_, _, _, _, _, _, _, _] tld) p hp
        · funext y
          by_cases e : y = Str.ofString "late"
          · rw [if_pos e, if_pos e]
          · rw [if_neg e, if_neg e, if_neg e]
  case done =>
  as_aux_lemma =>
    intro h18 tk18 m18 news18 F18a N18a hJ ht18
    obtain ⟨rfl, v18, rfl⟩ := hJ
    obtain ⟨m1, F18⟩ : ∃ m1, Fr s1.heap s1.heap.objs.size h18 m1 := ⟨_, F18a⟩
    have N18 : News s1.heap s1.heap.objs.size h18 [(Dc, PySem.W.listOf ws.toArray cc0), (ld, o'), (s1.heap.objs.size + 1 + 1, ct2), (s1.heap.objs.size + 1, oc)] := fun p hp => N18a p (sub_skip (sub_skip (sub_skip (sub_tail (sub_skip (sub_tail (sub_tail (sub_tail all_nil))))))) p hp)
    clear F17 N17 F18a N18a hU hdue hbad
    dsimp only at ht18 ⊢
    (repeat' (first | (k_unfold; (try dsimp only)) | ((fail_if_success (with_reducible first | refine stop_at [76, 274, 281, 302, 307, 312, 258, 222, 166, 173, 295] (by decide) ?_ | refine stop_pi ?_ | refine stop_ne ?_ | refine stop_eq ?_ | refine stop_st (by decide) ?_ | refine stop_bl (by decide) ?_ | refine stop_lc ?_ | refine stop_jp ?_ | show LCg.CompSrc _ _ _ _ _ _ _ _ _ _ _ _ _ _ | show LCt.CompSrcT _ _ _ _ _ _ _ _ _ _ _ _ _ _ _)); (first | ((with_reducible refine stop_cr ?_); first | (k_here; (with_reducible show wpAny _ _ (call (Value.ref 269) _) _ _ _); k_dflt (refine' hewn_use ?B ?F ?X ?T ?hk ?N ?ho ?U ?hcl ?hi ?hl ?h0 ?h1 ?m0 ?m1 ?d ?u ?_; (case B => k_asm); (case F => k_asm); (case X => k_asm); (case T => k_asm); (case hk => exact rfl); (case N => k_asm); (case ho => assumption); (case U => k_updF); (case hcl => first | (with_reducible assumption) | exact isl_keep (by assumption) (Fr.keep (by k_asm)) | exact News.isList (by k_asm) (by k_mem)); (case hi => assumption); (case hl => assumption); (case h0 => omega); (case h1 => omega); (case m0 => first | decide | omega); (case m1 => first | decide | omega); (case d => first | exact room2 (by assumption) (by exact rfl) | exact room1 (by assumption) (by exact rfl) | omega | decide | (dsimp only [ktrTop]; omega)); (case u => first | exact room2 (by assumption) (by exact rfl) | exact room1 (by assumption) (by exact rfl) | omega | decide | (dsimp only [ktrTop]; omega))); intro _ _ _ _ _ _ _ _ _ _ _; ktr_rel)) | (k_here; (with_reducible show wpAny _ _ (subscriptTail _ _ (Value.ref _) (Value.int _ _)) _ _ _); k_dflt (refine' item0 ?t ?_; (case t => exact News.isList (by k_asm) (by k_mem)))) | ((with_reducible refine stop_cw ?_); k_dflt (refine' callWith_K0 (Frag.In.keeps KX (Fr.keep (by with_reducible assumption))) ?k2 ?_; (case k2 => k_is); k_whole)) | walk1 | (dsimp only; first | walk1 | (k_unfold; (try dsimp only)))))))
    refine swap_use (c := 91) (d := 119) (by first | rfl | decide +kernel) (by first | rfl | decide +kernel) (by decide +kernel) (by show @Ne Nat _ _; first | exact Nat.succ_ne_zero _ | exact Nat.ne_of_gt (Nat.lt_of_lt_of_le (Nat.succ_pos _) (by assumption)) | exact Nat.ne_of_gt (by assumption) | omega) (by show @Ne Nat _ _; first | exact Nat.succ_ne_zero _ | exact Nat.ne_of_gt (Nat.lt_of_lt_of_le (Nat.succ_pos _) (by assumption)) | exact Nat.ne_of_gt (by assumption) | omega) (by show @Ne Nat _ _; first | exact Nat.ne_of_lt (Nat.lt_succ_self _) | omega) (by first | assumption | exact Nat.le_trans (Nat.le_of_eq (by assumption)) (by assumption) | exact Nat.le_trans (by assumption) (by assumption) | omega) (fun t19 k19 ht19 => ?_)
    dsimp only at ht19
    (repeat' (first | (k_unfold; (try dsimp only)) | ((fail_if_success (with_reducible first | refine stop_at [76, 274, 281, 302, 307, 312, 258, 222, 166, 173, 295] (by decide) ?_ | refine stop_pi ?_ | refine stop_ne ?_ | refine stop_eq ?_ | refine stop_st (by decide) ?_ | refine stop_bl (by decide) ?_ | refine stop_lc ?_ | refine stop_jp ?_ | show LCg.CompSrc _ _ _ _ _ _ _ _ _ _ _ _ _ _ | show LCt.CompSrcT _ _ _ _ _ _ _ _ _ _ _ _ _ _ _)); (first | ((with_reducible refine stop_cr ?_); first | (k_here; (with_reducible show wpAny _ _ (call (Value.ref 269) _) _ _ _); k_dflt (refine' hewn_use ?B ?F ?X ?T ?hk ?N ?ho ?U ?hcl ?hi ?hl ?h0 ?h1 ?m0 ?m1 ?d ?u ?_; (case B => k_asm); (case F => k_asm); (case X => k_asm); (case T => k_asm); (case hk => exact rfl); (case N => k_asm); (case ho => assumption); (case U => k_updF); (case hcl => first | (with_reducible assumption) | exact isl_keep (by assumption) (Fr.keep (by k_asm)) | exact News.isList (by k_asm) (by k_mem)); (case hi => assumption); (case hl => assumption); (case h0 => omega); (case h1 => omega); (case m0 => first | decide | omega); (case m1 => first | decide | omega); (case d => first | exact room2 (by assumption) (by exact rfl) | exact room1 (by assumption) (by exact rfl) | omega | decide | (dsimp only [ktrTop]; omega)); (case u => first | exact room2 (by assumption) (by exact rfl) | exact room1 (by assumption) (by exact rfl) | omega | decide | (dsimp only [ktrTop]; omega))); intro _ _ _ _ _ _ _ _ _ _ _; ktr_rel)) | (k_here; (with_reducible show wpAny _ _ (subscriptTail _ _ (Value.ref _) (Value.int _ _)) _ _ _); k_dflt (refine' item0 ?t ?_; (case t => exact News.isList (by k_asm) (by k_mem)))) | ((with_reducible refine stop_cw ?_); k_dflt (refine' callWith_K0 (Frag.In.keeps KX (Fr.keep (by with_reducible assumption))) ?k2 ?_; (case k2 => k_is); k_whole)) | walk1 | (dsimp only; first | walk1 | (k_unfold; (try dsimp only)))))))
    have hsl3 := swap_len 91 119 text
    refine swap_use (c := 125) (d := 40) (by first | rfl | decide +kernel) (by first | rfl | decide +kernel) (by decide +kernel) (by show @Ne Nat _ _; first | exact Nat.succ_ne_zero _ | exact Nat.ne_of_gt (Nat.lt_of_lt_of_le (Nat.succ_pos _) (by assumption)) | exact Nat.ne_of_gt (by assumption) | omega) (by show @Ne Nat _ _; first | exact Nat.succ_ne_zero _ | exact Nat.ne_of_gt (Nat.lt_of_lt_of_le (Nat.succ_pos _) (by assumption)) | exact Nat.ne_of_gt (by assumption) | omega) (by show @Ne Nat _ _; first | exact Nat.ne_of_lt (Nat.lt_succ_self _) | omega) (by first | assumption | exact Nat.le_trans (Nat.le_of_eq (by assumption)) (by assumption) | exact Nat.le_trans (by assumption) (by assumption) | omega) (fun t20 k20 ht20 => ?_)
    dsimp only at ht20
    rw [show swapS 125 40 (swapS 91 119 text) = readT text from rfl]
    have hrl := readT_len text
    (repeat' (first | (k_unfold; (try dsimp only)) | ((fail_if_success (with_reducible first | refine stop_at [76, 274, 281, 302, 307, 312, 258, 222, 166, 173, 295] (by decide) ?_ | refine stop_pi ?_ | refine stop_ne ?_ | refine stop_eq ?_ | refine stop_st (by decide) ?_ | refine stop_bl (by decide) ?_ | refine stop_lc ?_ | refine stop_jp ?_ | show LCg.CompSrc _ _ _ _ _ _ _ _ _ _ _ _ _ _ | show LCt.CompSrcT _ _ _ _ _ _ _ _ _ _ _ _ _ _ _)); (first | ((with_reducible refine stop_cr ?_); first | (k_here; (with_reducible show wpAny _ _ (call (Value.ref 269) _) _ _ _); k_dflt (refine' hewn_use ?B ?F ?X ?T ?hk ?N ?ho ?U ?hcl ?hi ?hl ?h0 ?h1 ?m0 ?m1 ?d ?u ?_; (case B => k_asm); (case F => k_asm); (case X => k_asm); (case T => k_asm); (case hk => exact rfl); (case N => k_asm); (case ho => assumption); (case U => k_updF); (case hcl => first | (with_reducible assumption) | exact isl_keep (by assumption) (Fr.keep (by k_asm)) | exact News.isList (by k_asm) (by k_mem)); (case hi => assumption); (case hl => assumption); (case h0 => omega); (case h1 => omega); (case m0 => first | decide | omega); (case m1 => first | decide | omega); (case d => first | exact room2 (by assumption) (by exact rfl) | exact room1 (by assumption) (by exact rfl) | omega | decide | (dsimp only [ktrTop]; omega)); (case u => first | exact room2 (by assumption) (by exact rfl) | exact room1 (by assumption) (by exact rfl) | omega | decide | (dsimp only [ktrTop]; omega))); intro _ _ _ _ _ _ _ _ _ _ _; ktr_rel)) | (k_here; (with_reducible show wpAny _ _ (subscriptTail _ _ (Value.ref _) (Value.int _ _)) _ _ _); k_dflt (refine' item0 ?t ?_; (case t => exact News.isList (by k_asm) (by k_mem)))) | ((with_reducible refine stop_cw ?_); k_dflt (refine' callWith_K0 (Frag.In.keeps KX (Fr.keep (by with_reducible assumption))) ?k2 ?_; (case k2 => k_is); k_whole)) | walk1 | (dsimp only; first | walk1 | (k_unfold; (try dsimp only)))))))
    rename Fr s1.heap _ _ _ => F21
    rename News s1.heap _ _ _ => N21
    refine with_toks ?_
    k_dflt (refine' reader_use (base := s1.heap) ⟨KB, F21, KX, TT, rfl⟩ N21 ?l ?d ?u (readT_good htc) ?_; (case l => first | assumption | exact Nat.le_trans (Nat.le_of_eq (by assumption)) (by assumption) | omega); (case d => first | exact room2 (by assumption) (by exact rfl) | exact room1 (by assumption) (by exact rfl) | omega | decide | (dsimp only [ktrTop]; omega)); (case u => first | exact room2 (by assumption) (by exact rfl) | exact room1 (by assumption) (by exact rfl) | omega | decide | (dsimp only [ktrTop]; omega)))
    intro rd dxr rr rk rtp rtd rvs rn rtl h22 tk22 F22 N22 RK22 hfr hpre
    dsimp only
    intro ht22
    dsimp only [rdL, List.cons_append, List.nil_append] at N22
    have hldR : ∀ x ∈ rdL rd dxr rr rk 0 0 rtp rtd rvs rn rtl, x.1 ≠ ld := fun x hx e => by
      have h1 := hfr x hx
      rw [e, (N21 (ld, o') (by k_dflt k_mem)).1] at h1
      cases h1
    clear N21 F21 hfr
    (repeat' (first | (k_unfold; (try dsimp only)) | ((fail_if_success (with_reducible first | refine stop_at [76, 274, 281, 302, 307, 312, 258, 222, 166, 173, 295] (by decide) ?_ | refine stop_pi ?_ | refine stop_ne ?_ | refine stop_eq ?_ | refine stop_st (by decide) ?_ | refine stop_bl (by decide) ?_ | refine stop_lc ?_ | refine stop_jp ?_ | show LCg.CompSrc _ _ _ _ _ _ _ _ _ _ _ _ _ _ | show LCt.CompSrcT _ _ _ _ _ _ _ _ _ _ _ _ _ _ _)); (first | ((with_reducible refine stop_cr ?_); first | (k_here; (with_reducible show wpAny _ _ (call (Value.ref 269) _) _ _ _); k_dflt (refine' hewn_use ?B ?F ?X ?T ?hk ?N ?ho ?U ?hcl ?hi ?hl ?h0 ?h1 ?m0 ?m1 ?d ?u ?_; (case B => k_asm); (case F => k_asm); (case X => k_asm); (case T => k_asm); (case hk => exact rfl); (case N => k_asm); (case ho => assumption); (case U => k_updF); (case hcl => first | (with_reducible assumption) | exact isl_keep (by assumption) (Fr.keep (by k_asm)) | exact News.isList (by k_asm) (by k_mem)); (case hi => assumption); (case hl => assumption); (case h0 => omega); (case h1 => omega); (case m0 => first | decide | omega); (case m1 => first | decide | omega); (case d => first | exact room2 (by assumption) (by exact rfl) | exact room1 (by assumption) (by exact rfl) | omega | decide | (dsimp only [ktrTop]; omega)); (case u => first | exact room2 (by assumption) (by exact rfl) | exact room1 (by assumption) (by exact rfl) | omega | decide | (dsimp only [ktrTop]; omega))); intro _ _ _ _ _ _ _ _ _ _ _; ktr_rel)) | (k_here; (with_reducible show wpAny _ _ (subscriptTail _ _ (Value.ref _) (Value.int _ _)) _ _ _); k_dflt (refine' item0 ?t ?_; (case t => exact News.isList (by k_asm) (by k_mem)))) | ((with_reducible refine stop_cw ?_); k_dflt (refine' callWith_K0 (Frag.In.keeps KX (Fr.keep (by with_reducible assumption))) ?k2 ?_; (case k2 => k_is); k_whole)) | walk1 | (dsimp only; first | walk1 | (k_unfold; (try dsimp only)))))))
    rename Fr s1.heap _ _ _ => F23
    rename News s1.heap _ _ _ => N23
    refine with_toks ?_
    refine' For_turns F23 ?_
    (repeat' (first | (k_unfold; (try dsimp only)) | ((fail_if_success (with_reducible first | refine stop_at [76, 274, 281, 302, 307, 312, 258, 222, 166, 173, 295] (by decide) ?_ | refine stop_pi ?_ | refine stop_ne ?_ | refine stop_eq ?_ | refine stop_st (by decide) ?_ | refine stop_bl (by decide) ?_ | refine stop_lc ?_ | refine stop_jp ?_ | show LCg.CompSrc _ _ _ _ _ _ _ _ _ _ _ _ _ _ | show LCt.CompSrcT _ _ _ _ _ _ _ _ _ _ _ _ _ _ _)); (first | ((with_reducible refine stop_cr ?_); first | (k_here; (with_reducible show wpAny _ _ (call (Value.ref 269) _) _ _ _); k_dflt (refine' hewn_use ?B ?F ?X ?T ?hk ?N ?ho ?U ?hcl ?hi ?hl ?h0 ?h1 ?m0 ?m1 ?d ?u ?_; (case B => k_asm); (case F => k_asm); (case X => k_asm); (case T => k_asm); (case hk => exact rfl); (case N => k_asm); (case ho => assumption); (case U => k_updF); (case hcl => first | (with_reducible assumption) | exact isl_keep (by assumption) (Fr.keep (by k_asm)) | exact News.isList (by k_asm) (by k_mem)); (case hi => assumption); (case hl => assumption); (case h0 => omega); (case h1 => omega); (case m0 => first | decide | omega); (case m1 => first | decide | omega); (case d => first | exact room2 (by assumption) (by exact rfl) | exact room1 (by assumption) (by exact rfl) | omega | decide | (dsimp only [ktrTop]; omega)); (case u => first | exact room2 (by assumption) (by exact rfl) | exact room1 (by assumption) (by exact rfl) | omega | decide | (dsimp only [ktrTop]; omega))); intro _ _ _ _ _ _ _ _ _ _ _; ktr_rel)) | (k_here; (with_reducible show wpAny _ _ (subscriptTail _ _ (Value.ref _) (Value.int _ _)) _ _ _); k_dflt (refine' item0 ?t ?_; (case t => exact News.isList (by k_asm) (by k_mem)))) | ((with_reducible refine stop_cw ?_); k_dflt (refine' callWith_K0 (Frag.In.keeps KX (Fr.keep (by with_reducible assumption))) ?k2 ?_; (case k2 => k_is); k_whole)) | walk1 | (dsimp only; first | walk1 | (k_unfold; (try dsimp only)))))))
    refine swap_use (c := 91) (d := 119) (by first | rfl | decide +kernel) (by first | rfl | decide +kernel) (by decide +kernel) (by show @Ne Nat _ _; first | exact Nat.succ_ne_zero _ | exact Nat.ne_of_gt (Nat.lt_of_lt_of_le (Nat.succ_pos _) (by assumption)) | exact Nat.ne_of_gt (by assumption) | omega) (by show @Ne Nat _ _; first | exact Nat.succ_ne_zero _ | exact Nat.ne_of_gt (Nat.lt_of_lt_of_le (Nat.succ_pos _) (by assumption)) | exact Nat.ne_of_gt (by assumption) | omega) (by show @Ne Nat _ _; first | exact Nat.ne_of_lt (Nat.lt_succ_self _) | omega) (by first | assumption | exact Nat.le_trans (Nat.le_of_eq (by assumption)) (by assumption) | exact Nat.le_trans (by assumption) (by assumption) | omega) (fun t24 k24 ht24 => ?_)
    dsimp only at ht24
    (repeat' (first | (k_unfold; (try dsimp only)) | ((fail_if_success (with_reducible first | refine stop_at [76, 274, 281, 302, 307, 312, 258, 222, 166, 173, 295] (by decide) ?_ | refine stop_pi ?_ | refine stop_ne ?_ | refine stop_eq ?_ | refine stop_st (by decide) ?_ | refine stop_bl (by decide) ?_ | refine stop_lc ?_ | refine stop_jp ?_ | show LCg.CompSrc _ _ _ _ _ _ _ _ _ _ _ _ _ _ | show LCt.CompSrcT _ _ _ _ _ _ _ _ _ _ _ _ _ _ _)); (first | ((with_reducible refine stop_cr ?_); first | (k_here; (with_reducible show wpAny _ _ (call (Value.ref 269) _) _ _ _); k_dflt (refine' hewn_use ?B ?F ?X ?T ?hk ?N ?ho ?U ?hcl ?hi ?hl ?h0 ?h1 ?m0 ?m1 ?d ?u ?_; (case B => k_asm); (case F => k_asm); (case X => k_asm); (case T => k_asm); (case hk => exact rfl); (case N => k_asm); (case ho => assumption); (case U => k_updF); (case hcl => first | (with_reducible assumption) | exact isl_keep (by assumption) (Fr.keep (by k_asm)) | exact News.isList (by k_asm) (by k_mem)); (case hi => assumption); (case hl => assumption); (case h0 => omega); (case h1 => omega); (case m0 => first | decide | omega); (case m1 => first | decide | omega); (case d => first | exact room2 (by assumption) (by exact rfl) | exact room1 (by assumption) (by exact rfl) | omega | decide | (dsimp only [ktrTop]; omega)); (case u => first | exact room2 (by assumption) (by exact rfl) | exact room1 (by assumption) (by exact rfl) | omega | decide | (dsimp only [ktrTop]; omega))); intro _ _ _ _ _ _ _ _ _ _ _; ktr_rel)) | (k_here; (with_reducible show wpAny _ _ (subscriptTail _ _ (Value.ref _) (Value.int _ _)) _ _ _); k_dflt (refine' item0 ?t ?_; (case t => exact News.isList (by k_asm) (by k_mem)))) | ((with_reducible refine stop_cw ?_); k_dflt (refine' callWith_K0 (Frag.In.keeps KX (Fr.keep (by with_reducible assumption))) ?k2 ?_; (case k2 => k_is); k_whole)) | walk1 | (dsimp only; first | walk1 | (k_unfold; (try dsimp only)))))))
    refine swap_use (c := 125) (d := 40) (by first | rfl | decide +kernel) (by first | rfl | decide +kernel) (by decide +kernel) (by show @Ne Nat _ _; first | exact Nat.succ_ne_zero _ | exact Nat.ne_of_gt (Nat.lt_of_lt_of_le (Nat.succ_pos _) (by assumption)) | exact Nat.ne_of_gt (by assumption) | omega) (by show @Ne Nat _ _; first | exact Nat.succ_ne_zero _ | exact Nat.ne_of_gt (Nat.lt_of_lt_of_le (Nat.succ_pos _) (by assumption)) | exact Nat.ne_of_gt (by assumption) | omega) (by show @Ne Nat _ _; first | exact Nat.ne_of_lt (Nat.lt_succ_self _) | omega) (by first | assumption | exact Nat.le_trans (Nat.le_of_eq (by assumption)) (by assumption) | exact Nat.le_trans (by assumption) (by assumption) | omega) (fun t25 k25 ht25 => ?_)
    dsimp only at ht25
    rw [show swapS 125 40 (swapS 91 119 text) = readT text from rfl]
    (repeat' (first | (k_unfold; (try dsimp only)) | ((fail_if_success (with_reducible first | refine stop_at [76, 274, 281, 302, 307, 312, 258, 222, 166, 173, 295] (by decide) ?_ | refine stop_pi ?_ | refine stop_ne ?_ | refine stop_eq ?_ | refine stop_st (by decide) ?_ | refine stop_bl (by decide) ?_ | refine stop_lc ?_ | refine stop_jp ?_ | show LCg.CompSrc _ _ _ _ _ _ _ _ _ _ _ _ _ _ | show LCt.CompSrcT _ _ _ _ _ _ _ _ _ _ _ _ _ _ _)); (first | ((with_reducible refine stop_cr ?_); first | (k_here; (with_reducible show wpAny _ _ (call (Value.ref 269) _) _ _ _); k_dflt (refine' hewn_use ?B ?F ?X ?T ?hk ?N ?ho ?U ?hcl ?hi ?hl ?h0 ?h1 ?m0 ?m1 ?d ?u ?_; (case B => k_asm); (case F => k_asm); (case X => k_asm); (case T => k_asm); (case hk => exact rfl); (case N => k_asm); (case ho => assumption); (case U => k_updF); (case hcl => first | (with_reducible assumption) | exact isl_keep (by assumption) (Fr.keep (by k_asm)) | exact News.isList (by k_asm) (by k_mem)); (case hi => assumption); (case hl => assumption); (case h0 => omega); (case h1 => omega); (case m0 => first | decide | omega); (case m1 => first | decide | omega); (case d => first | exact room2 (by assumption) (by exact rfl) | exact room1 (by assumption) (by exact rfl) | omega | decide | (dsimp only [ktrTop]; omega)); (case u => first | exact room2 (by assumption) (by exact rfl) | exact room1 (by assumption) (by exact rfl) | omega | decide | (dsimp only [ktrTop]; omega))); intro _ _ _ _ _ _ _ _ _ _ _; ktr_rel)) | (k_here; (with_reducible show wpAny _ _ (subscriptTail _ _ (Value.ref _) (Value.int _ _)) _ _ _); k_dflt (refine' item0 ?t ?_; (case t => exact News.isList (by k_asm) (by k_mem)))) | ((with_reducible refine stop_cw ?_); k_dflt (refine' callWith_K0 (Frag.In.keeps KX (Fr.keep (by with_reducible assumption))) ?k2 ?_; (case k2 => k_is); k_whole)) | walk1 | (dsimp only; first | walk1 | (k_unfold; (try dsimp only)))))))
    refine with_toks ?_
    k_dflt (refine' cut_use2 (base := s1.heap) ⟨KB, F23, KX, TT, rfl⟩ N23 ?l ?d ?u ?_; (case l => first | assumption | exact Nat.le_trans (Nat.le_of_eq (by assumption)) (by assumption) | omega); (case d => first | exact room2 (by assumption) (by exact rfl) | exact room1 (by assumption) (by exact rfl) | omega | decide | (dsimp only [ktrTop]; omega)); (case u => first | exact room2 (by assumption) (by exact rfl) | exact room1 (by assumption) (by exact rfl) | omega | decide | (dsimp only [ktrTop]; omega)))
    intro rc cvs cn2 ctl h26 tk26 F26 N26 hrcn hctl hcT
    dsimp only
    intro ht26
    repeat' (first | (k_unfold; (try dsimp only)) | ((fail_if_success (with_reducible first | refine stop_at [76, 274, 281, 302, 307, 312, 258, 222, 166, 173, 295] (by decide) ?_ | refine stop_pi ?_ | refine stop_ne ?_ | refine stop_eq ?_ | refine stop_st (by decide) ?_ | refine stop_bl (by decide) ?_ | refine stop_lc ?_ | refine stop_jp ?_ | show LCg.CompSrc _ _ _ _ _ _ _ _ _ _ _ _ _ _ | show LCt.CompSrcT _ _ _ _ _ _ _ _ _ _ _ _ _ _ _)); (fail_if_success (with_reducible show wpAny _ _ (subscriptTail _ (PySem.Expr.Slice _ _ _ _) _ _) _ _ _)); (first | walk1 | (dsimp only; first | walk1 | (k_unfold; (try dsimp only))))))
    refine kba_turn (value' := PySem.Expr.Name (PySem.Str.ofString "_") ⟨0, 0, 0, 0⟩) (fun _ => rfl) ?_
    have hcb := body_bound (readT text)
    have hldT : ∀ x ∈ ctl ++ rtl, x.1 ≠ ld := fun x hx e => by
      rcases List.mem_append.mp hx with hx | hx
      · have h1 := hctl x hx
        rw [e, (N23 (ld, o') (by k_dflt k_mem)).1] at h1
        cases h1
      · exact hldR x (.tail _ (.tail _ (.tail _ hx))) e
    have hld1 : rd ≠ ld := hldR _ (.head _)
    have hld2 : dxr ≠ ld := hldR _ (.tail _ (.head _))
    have hld3 : rr ≠ ld := hldR _ (.tail _ (.tail _ (.head _)))
    clear hldR
    rw [readT_cut htc, wordsT_body] at hcT
    have hcl0 := hcT.length
    rw [List.length_append, List.length_singleton] at hcl0
    have hBT := hcT.butLast
    clear hcT
    have dxp : dxr < h26.objs.size := Heap.lt_size (N26 (dxr, rdDict rk rr 0 0 rtp rtd) (by k_dflt k_mem)).1
    have hdx23 := (N23 (dxr, rdDict rk rr 0 0 rtp rtd) (by k_dflt k_mem)).1
    have RK26 : RdOk rd dxr rr rvs (ctl ++ rtl) (wordsT (readT text)) := RK22.grow (fun x hx e => by
      have h1 := hctl x hx
      rw [e, hdx23] at h1
      cases h1)
    refine slice_list F26 N26 (N26.isList (.head _)) .none (.int _ _) (fun h27 F27 N27a => ?_) (by with_unfolding_all rfl) (by intro _; with_unfolding_all rfl) (by rw [sizeLine_eq, List.size_toArray]; omega)
    rw [pick_but] at N27a
    obtain ⟨Dl, hDl, N27⟩ : ∃ Dl, dxr ≠ Dl ∧ (Dl = h26.objs.size + 1 ∧ News s1.heap s1.heap.objs.size h27 ([(Dl, PySem.W.listOf cvs.dropLast.toArray 0), (Dc, PySem.W.listOf ws.toArray cc0), (ld, o'), (s1.heap.objs.size + 1 + 1, ct2), (s1.heap.objs.size + 1, oc)] ++ rdL rd dxr rr rk 0 0 rtp rtd rvs rn (ctl ++ rtl))) := ⟨h26.objs.size + 1, Nat.ne_of_lt (Nat.lt_succ_of_lt dxp), rfl, fun p hp => N27a p (sub_tail (sub_skip (sub_tail (sub_tail (sub_tail (sub_tail (sub_tail (sub_tail (sub_tail (all_app sub_r sub_l))))))))) p hp)⟩
    obtain ⟨hDe, N27⟩ := N27
    rw [← hDe]
    have hpre27 : ∀ x ∈ [(Dl, PySem.W.listOf cvs.dropLast.toArray 0), (Dc, PySem.W.listOf ws.toArray cc0), (ld, o'), (s1.heap.objs.size + 1 + 1, ct2), (s1.heap.objs.size + 1, oc)], x.1 ≠ dxr := fun x hx => by
      rcases List.mem_cons.mp hx with rfl | hx
      · exact Ne.symm hDl
      · exact hpre x hx
    clear N26 F26 N27a N23 F23 hDe dxp hdx23 RK22 hrcn hctl
    refine turns_list2 (vs := cvs.dropLast) (n := 0) rfl F27 N27 (.head _) (fun i m₁ news₁ => (∃ tp, news₁ = [(Dl, PySem.W.listOf cvs.dropLast.toArray 0), (Dc, PySem.W.listOf ws.toArray cc0), (ld, o'), (s1.heap.objs.size + 1 + 1, ct2), (s1.heap.objs.size + 1, oc)] ++ rdL rd dxr rr rk i 0 tp rtd rvs rn (ctl ++ rtl)) ∧ m₁ (Str.ofString "reader") = some (.ref rd)) ⟨⟨_, rfl⟩, ?j0⟩ ?turn ?done
    case j0 => exact if_pos rfl
    case turn => 
      intro i v m₁ news₁ h₁ tk₁ own wr hv hJ hoff hown hwr F N
      obtain ⟨⟨tp, rfl⟩, hm⟩ := hJ
      dsimp only at hown
      as_aux_lemma =>
        obtain ⟨wd, sp, q, tq1, tq2, hwi, rfl, hqm⟩ := hBT.at2 hv
        have hwi2 := body_at hwi
        have hwk := body_kind hwi
        have hown2 : ∀ x ∈ own, x.1 ≠ dxr := fun x hx e => by
          rcases hown x hx with h | h
          · rw [e, (N27 (dxr, rdDict rk rr 0 0 rtp rtd) (by k_dflt k_mem)).1] at h
            cases h
          · exact hDl (e.symm.trans h)
        have RKo : RdOk rd dxr rr rvs (own ++ (ctl ++ rtl)) (wordsT (readT text)) := RK26.grow hown2
        have hq : q ≠ dxr := fun e => RK26.n3 _ (List.mem_append_left _ hqm) e
        have N28 : News s1.heap s1.heap.objs.size h₁ ((q, tupObj wd sp tq1 tq2) :: (Dl, PySem.W.listOf cvs.dropLast.toArray 0) :: (Dc, PySem.W.listOf ws.toArray cc0) :: (ld, o') :: (s1.heap.objs.size + 1 + 1, ct2) :: (s1.heap.objs.size + 1, oc) :: rdL rd dxr rr rk i 0 tp rtd rvs rn (own ++ (ctl ++ rtl))) := fun p hp => N p (all_cons (sub_lr (k := own) (sub_lr (k := [_, _, _, _, _, _, _, _]) sub_l) _ hqm) (sub_swap [_, _, _, _, _, _, _, _] own (ctl ++ rtl)) p hp)
        clear N F27 N27
        have hpre28 : ∀ x ∈ [(q, tupObj wd sp tq1 tq2), (Dl, PySem.W.listOf cvs.dropLast.toArray 0), (Dc, PySem.W.listOf ws.toArray cc0), (ld, o'), (s1.heap.objs.size + 1 + 1, ct2), (s1.heap.objs.size + 1, oc)], x.1 ≠ dxr := fun x hx => by
          rcases List.mem_cons.mp hx with rfl | hx
          · exact hq
          · exact hpre27 x hx
        replace F := fr_over [("reader", .ref rd)] F (all_cons hm all_nil)
        dsimp only [over] at F
        dsimp only [rdL] at N28
        (repeat' (first | (k_unfold; (try dsimp only)) | ((fail_if_success (with_reducible first | refine stop_at [76, 274, 281, 302, 307, 312, 258, 222, 166, 173, 295] (by decide) ?_ | refine stop_pi ?_ | refine stop_ne ?_ | refine stop_eq ?_ | refine stop_st (by decide) ?_ | refine stop_bl (by decide) ?_ | refine stop_lc ?_ | refine stop_jp ?_ | show LCg.CompSrc _ _ _ _ _ _ _ _ _ _ _ _ _ _ | show LCt.CompSrcT _ _ _ _ _ _ _ _ _ _ _ _ _ _ _)); (first | ((with_reducible refine stop_cr ?_); first | (k_here; (with_reducible show wpAny _ _ (call (Value.ref 269) _) _ _ _); k_dflt (refine' hewn_use ?B ?F ?X ?T ?hk ?N ?ho ?U ?hcl ?hi ?hl ?h0 ?h1 ?m0 ?m1 ?d ?u ?_; (case B => k_asm); (case F => k_asm); (case X => k_asm); (case T => k_asm); (case hk => exact rfl); (case N => k_asm); (case ho => assumption); (case U => k_updF); (case hcl => first | (with_reducible assumption) | exact isl_keep (by assumption) (Fr.keep (by k_asm)) | exact News.isList (by k_asm) (by k_mem)); (case hi => assumption); (case hl => assumption); (case h0 => omega); (case h1 => omega); (case m0 => first | decide | omega); (case m1 => first | decide | omega); (case d => first | exact room2 (by assumption) (by exact rfl) | exact room1 (by assumption) (by exact rfl) | omega | decide | (dsimp only [ktrTop]; omega)); (case u => first | exact room2 (by assumption) (by exact rfl) | exact room1 (by assumption) (by exact rfl) | omega | decide | (dsimp only [ktrTop]; omega))); intro _ _ _ _ _ _ _ _ _ _ _; ktr_rel)) | (k_here; (with_reducible show wpAny _ _ (subscriptTail _ _ (Value.ref _) (Value.int _ _)) _ _ _); k_dflt (refine' item0 ?t ?_; (case t => exact News.isList (by k_asm) (by k_mem)))) | ((with_reducible refine stop_cw ?_); k_dflt (refine' callWith_K0 (Frag.In.keeps KX (Fr.keep (by with_reducible assumption))) ?k2 ?_; (case k2 => k_is); k_whole)) | walk1 | (dsimp only; first | walk1 | (k_unfold; (try dsimp only)))))))
        rename Fr s1.heap _ _ _ => F29
        rename News s1.heap _ _ _ => N29
        k_dflt (refine' taken_use (base := s1.heap) (pre := [_, _, _, _, _, _]) KX TT ⟨KB, F29, KX, TT, rfl⟩ RKo hpre28 N29 hwi2 hwk ?d ?u ?_; (case d => first | exact room2 (by assumption) (by exact rfl) | exact room1 (by assumption) (by exact rfl) | omega | decide | (dsimp only [ktrTop]; omega)); (case u => first | exact room2 (by assumption) (by exact rfl) | exact room1 (by assumption) (by exact rfl) | omega | decide | (dsimp only [ktrTop]; omega)))
        intro h30 tk30 tp30 F30 N30
        dsimp only [rdL, List.cons_append, List.nil_append] at N30
        (repeat' (first | (k_unfold; (try dsimp only)) | ((fail_if_success (with_reducible first | refine stop_at [76, 274, 281, 302, 307, 312, 258, 222, 166, 173, 295] (by decide) ?_ | refine stop_pi ?_ | refine stop_ne ?_ | refine stop_eq ?_ | refine stop_st (by decide) ?_ | refine stop_bl (by decide) ?_ | refine stop_lc ?_ | refine stop_jp ?_ | show LCg.CompSrc _ _ _ _ _ _ _ _ _ _ _ _ _ _ | show LCt.CompSrcT _ _ _ _ _ _ _ _ _ _ _ _ _ _ _)); (first | ((with_reducible refine stop_cr ?_); first | (k_here; (with_reducible show wpAny _ _ (call (Value.ref 269) _) _ _ _); k_dflt (refine' hewn_use ?B ?F ?X ?T ?hk ?N ?ho ?U ?hcl ?hi ?hl ?h0 ?h1 ?m0 ?m1 ?d ?u ?_; (case B => k_asm); (case F => k_asm); (case X => k_asm); (case T => k_asm); (case hk => exact rfl); (case N => k_asm); (case ho => assumption); (case U => k_updF); (case hcl => first | (with_reducible assumption) | exact isl_keep (by assumption) (Fr.keep (by k_asm)) | exact News.isList (by k_asm) (by k_mem)); (case hi => assumption); (case hl => assumption); (case h0 => omega); (case h1 => omega); (case m0 => first | decide | omega); (case m1 => first | decide | omega); (case d => first | exact room2 (by assumption) (by exact rfl) | exact room1 (by assumption) (by exact rfl) | omega | decide | (dsimp only [ktrTop]; omega)); (case u => first | exact room2 (by assumption) (by exact rfl) | exact room1 (by assumption) (by exact rfl) | omega | decide | (dsimp only [ktrTop]; omega))); intro _ _ _ _ _ _ _ _ _ _ _; ktr_rel)) | (k_here; (with_reducible show wpAny _ _ (subscriptTail _ _ (Value.ref _) (Value.int _ _)) _ _ _); k_dflt (refine' item0 ?t ?_; (case t => exact News.isList (by k_asm) (by k_mem)))) | ((with_reducible refine stop_cw ?_); k_dflt (refine' callWith_K0 (Frag.In.keeps KX (Fr.keep (by with_reducible assumption))) ?k2 ?_; (case k2 => k_is); k_whole)) | walk1 | (dsimp only; first | walk1 | (k_unfold; (try dsimp only)))))))
        refine LoopStepU.intro F30 (fun p hp => N30 p ?_) (fun p hp => ?_) ⟨⟨tp30, rfl⟩, rfl⟩
        · exact sub_skip (sub_swap own [_, _, _, _, _, _, _, _] (ctl ++ rtl)) p hp
        · refine off_map (f := Prod.fst) (R := fun a => ¬ a ∈ wr) ?_ hoff p hp
          rfl
    case done => 
      as_aux_lemma =>
        intro h31 tk31 m31 news31 F31 N31a hJ ht31
        obtain ⟨⟨tp31, rfl⟩, hm31⟩ := hJ
        have N31 : News s1.heap s1.heap.objs.size h31 ([(Dc, PySem.W.listOf ws.toArray cc0), (ld, o'), (s1.heap.objs.size + 1 + 1, ct2), (s1.heap.objs.size + 1, oc)] ++ rdL rd dxr rr rk cvs.dropLast.length 0 tp31 rtd rvs rn (ctl ++ rtl)) := fun p hp => N31a p (.tail _ hp)
        clear N31a F27 N27 hpre27
        dsimp only at ht31 ⊢
        rw [hBT.length] at N31
        replace F31 := fr_over [("reader", .ref rd)] F31 (all_cons hm31 all_nil)
        dsimp only [over] at F31
        have F32 : Fr s1.heap s1.heap.objs.size h31 (fun y => if y = Str.ofString "reader" then some (.ref rd) else m31 y) := F31
        clear F31 hm31
        have hwl := body_last (readT text)
        rw [hrl] at hwl
        generalize (bodyW (readT text)).length = pl at N31 hwl
        generalize ctl ++ rtl = tlr at N31 RK26 hldT
        dsimp only [rdL, List.cons_append, List.nil_append] at N31
        (repeat' (first | (k_unfold; (try dsimp only)) | ((fail_if_success (with_reducible first | refine stop_at [76, 274, 281, 302, 307, 312, 258, 222, 166, 173, 295] (by decide) ?_ | refine stop_pi ?_ | refine stop_ne ?_ | refine stop_eq ?_ | refine stop_st (by decide) ?_ | refine stop_bl (by decide) ?_ | refine stop_lc ?_ | refine stop_jp ?_ | show LCg.CompSrc _ _ _ _ _ _ _ _ _ _ _ _ _ _ | show LCt.CompSrcT _ _ _ _ _ _ _ _ _ _ _ _ _ _ _)); (first | ((with_reducible refine stop_cr ?_); first | (k_here; (with_reducible show wpAny _ _ (call (Value.ref 269) _) _ _ _); k_dflt (refine' hewn_use ?B ?F ?X ?T ?hk ?N ?ho ?U ?hcl ?hi ?hl ?h0 ?h1 ?m0 ?m1 ?d ?u ?_; (case B => k_asm); (case F => k_asm); (case X => k_asm); (case T => k_asm); (case hk => exact rfl); (case N => k_asm); (case ho => assumption); (case U => k_updF); (case hcl => first | (with_reducible assumption) | exact isl_keep (by assumption) (Fr.keep (by k_asm)) | exact News.isList (by k_asm) (by k_mem)); (case hi => assumption); (case hl => assumption); (case h0 => omega); (case h1 => omega); (case m0 => first | decide | omega); (case m1 => first | decide | omega); (case d => first | exact room2 (by assumption) (by exact rfl) | exact room1 (by assumption) (by exact rfl) | omega | decide | (dsimp only [ktrTop]; omega)); (case u => first | exact room2 (by assumption) (by exact rfl) | exact room1 (by assumption) (by exact rfl) | omega | decide | (dsimp only [ktrTop]; omega))); intro _ _ _ _ _ _ _ _ _ _ _; ktr_rel)) | (k_here; (with_reducible show wpAny _ _ (subscriptTail _ _ (Value.ref _) (Value.int _ _)) _ _ _); k_dflt (refine' item0 ?t ?_; (case t => exact News.isList (by k_asm) (by k_mem)))) | ((with_reducible refine stop_cw ?_); k_dflt (refine' callWith_K0 (Frag.In.keeps KX (Fr.keep (by with_reducible assumption))) ?k2 ?_; (case k2 => k_is); k_whole)) | walk1 | (dsimp only; first | walk1 | (k_unfold; (try dsimp only)))))))
        k_dflt (refine' word_use (pre := [_, _, _, _]) KB F32 KX TT rfl RK26 N31 hwl ?d ?u ?_; (case d => first | exact room2 (by assumption) (by exact rfl) | exact room1 (by assumption) (by exact rfl) | omega | decide | (dsimp only [ktrTop]; omega)); (case u => first | exact room2 (by assumption) (by exact rfl) | exact room1 (by assumption) (by exact rfl) | omega | decide | (dsimp only [ktrTop]; omega)))
        intro h33 tk33 tw33 F33 N33
        dsimp only [rdL, List.cons_append, List.nil_append] at N33
        clear F32 N31
        (repeat' (first | (k_unfold; (try dsimp only)) | ((fail_if_success (with_reducible first | refine stop_at [76, 274, 281, 302, 307, 312, 258, 222, 166, 173, 295] (by decide) ?_ | refine stop_pi ?_ | refine stop_ne ?_ | refine stop_eq ?_ | refine stop_st (by decide) ?_ | refine stop_bl (by decide) ?_ | refine stop_lc ?_ | refine stop_jp ?_ | show LCg.CompSrc _ _ _ _ _ _ _ _ _ _ _ _ _ _ | show LCt.CompSrcT _ _ _ _ _ _ _ _ _ _ _ _ _ _ _)); (first | ((with_reducible refine stop_cr ?_); first | (k_here; (with_reducible show wpAny _ _ (call (Value.ref 269) _) _ _ _); k_dflt (refine' hewn_use ?B ?F ?X ?T ?hk ?N ?ho ?U ?hcl ?hi ?hl ?h0 ?h1 ?m0 ?m1 ?d ?u ?_; (case B => k_asm); (case F => k_asm); (case X => k_asm); (case T => k_asm); (case hk => exact rfl); (case N => k_asm); (case ho => assumption); (case U => k_updF); (case hcl => first | (with_reducible assumption) | exact isl_keep (by assumption) (Fr.keep (by k_asm)) | exact News.isList (by k_asm) (by k_mem)); (case hi => assumption); (case hl => assumption); (case h0 => omega); (case h1 => omega); (case m0 => first | decide | omega); (case m1 => first | decide | omega); (case d => first | exact room2 (by assumption) (by exact rfl) | exact room1 (by assumption) (by exact rfl) | omega | decide | (dsimp only [ktrTop]; omega)); (case u => first | exact room2 (by assumption) (by exact rfl) | exact room1 (by assumption) (by exact rfl) | omega | decide | (dsimp only [ktrTop]; omega))); intro _ _ _ _ _ _ _ _ _ _ _; ktr_rel)) | (k_here; (with_reducible show wpAny _ _ (subscriptTail _ _ (Value.ref _) (Value.int _ _)) _ _ _); k_dflt (refine' item0 ?t ?_; (case t => exact News.isList (by k_asm) (by k_mem)))) | ((with_reducible refine stop_cw ?_); k_dflt (refine' callWith_K0 (Frag.In.keeps KX (Fr.keep (by with_reducible assumption))) ?k2 ?_; (case k2 => k_is); k_whole)) | walk1 | (dsimp only; first | walk1 | (k_unfold; (try dsimp only)))))))
        refine ne_str_same ?_
        (repeat' (first | (k_unfold; (try dsimp only)) | ((fail_if_success (with_reducible first | refine stop_at [76, 274, 281, 302, 307, 312, 258, 222, 166, 173, 295] (by decide) ?_ | refine stop_pi ?_ | refine stop_ne ?_ | refine stop_eq ?_ | refine stop_st (by decide) ?_ | refine stop_bl (by decide) ?_ | refine stop_lc ?_ | refine stop_jp ?_ | show LCg.CompSrc _ _ _ _ _ _ _ _ _ _ _ _ _ _ | show LCt.CompSrcT _ _ _ _ _ _ _ _ _ _ _ _ _ _ _)); (first | ((with_reducible refine stop_cr ?_); first | (k_here; (with_reducible show wpAny _ _ (call (Value.ref 269) _) _ _ _); k_dflt (refine' hewn_use ?B ?F ?X ?T ?hk ?N ?ho ?U ?hcl ?hi ?hl ?h0 ?h1 ?m0 ?m1 ?d ?u ?_; (case B => k_asm); (case F => k_asm); (case X => k_asm); (case T => k_asm); (case hk => exact rfl); (case N => k_asm); (case ho => assumption); (case U => k_updF); (case hcl => first | (with_reducible assumption) | exact isl_keep (by assumption) (Fr.keep (by k_asm)) | exact News.isList (by k_asm) (by k_mem)); (case hi => assumption); (case hl => assumption); (case h0 => omega); (case h1 => omega); (case m0 => first | decide | omega); (case m1 => first | decide | omega); (case d => first | exact room2 (by assumption) (by exact rfl) | exact room1 (by assumption) (by exact rfl) | omega | decide | (dsimp only [ktrTop]; omega)); (case u => first | exact room2 (by assumption) (by exact rfl) | exact room1 (by assumption) (by exact rfl) | omega | decide | (dsimp only [ktrTop]; omega))); intro _ _ _ _ _ _ _ _ _ _ _; ktr_rel)) | (k_here; (with_reducible show wpAny _ _ (subscriptTail _ _ (Value.ref _) (Value.int _ _)) _ _ _); k_dflt (refine' item0 ?t ?_; (case t => exact News.isList (by k_asm) (by k_mem)))) | ((with_reducible refine stop_cw ?_); k_dflt (refine' callWith_K0 (Frag.In.keeps KX (Fr.keep (by with_reducible assumption))) ?k2 ?_; (case k2 => k_is); k_whole)) | walk1 | (dsimp only; first | walk1 | (k_unfold; (try dsimp only)))))))
        rename Fr s1.heap _ _ _ => F34
        rename News s1.heap _ _ _ => N34
        k_dflt (refine' spot_use (pre := [_, _, _, _]) KB F34 KX TT rfl RK26 N34 hwl ?d ?u ?_; (case d => first | exact room2 (by assumption) (by exact rfl) | exact room1 (by assumption) (by exact rfl) | omega | decide | (dsimp only [ktrTop]; omega)); (case u => first | exact room2 (by assumption) (by exact rfl) | exact room1 (by assumption) (by exact rfl) | omega | decide | (dsimp only [ktrTop]; omega)))
        intro h35 tk35 tw35 F35 N35
        dsimp only [rdL, List.cons_append, List.nil_append] at N35
        clear F34 N34
        (repeat' (first | (k_unfold; (try dsimp only)) | ((fail_if_success (with_reducible first | refine stop_at [76, 274, 281, 302, 307, 312, 258, 222, 166, 173, 295] (by decide) ?_ | refine stop_pi ?_ | refine stop_ne ?_ | refine stop_eq ?_ | refine stop_st (by decide) ?_ | refine stop_bl (by decide) ?_ | refine stop_lc ?_ | refine stop_jp ?_ | show LCg.CompSrc _ _ _ _ _ _ _ _ _ _ _ _ _ _ | show LCt.CompSrcT _ _ _ _ _ _ _ _ _ _ _ _ _ _ _)); (first | ((with_reducible refine stop_cr ?_); first | (k_here; (with_reducible show wpAny _ _ (call (Value.ref 269) _) _ _ _); k_dflt (refine' hewn_use ?B ?F ?X ?T ?hk ?N ?ho ?U ?hcl ?hi ?hl ?h0 ?h1 ?m0 ?m1 ?d ?u ?_; (case B => k_asm); (case F => k_asm); (case X => k_asm); (case T => k_asm); (case hk => exact rfl); (case N => k_asm); (case ho => assumption); (case U => k_updF); (case hcl => first | (with_reducible assumption) | exact isl_keep (by assumption) (Fr.keep (by k_asm)) | exact News.isList (by k_asm) (by k_mem)); (case hi => assumption); (case hl => assumption); (case h0 => omega); (case h1 => omega); (case m0 => first | decide | omega); (case m1 => first | decide | omega); (case d => first | exact room2 (by assumption) (by exact rfl) | exact room1 (by assumption) (by exact rfl) | omega | decide | (dsimp only [ktrTop]; omega)); (case u => first | exact room2 (by assumption) (by exact rfl) | exact room1 (by assumption) (by exact rfl) | omega | decide | (dsimp only [ktrTop]; omega))); intro _ _ _ _ _ _ _ _ _ _ _; ktr_rel)) | (k_here; (with_reducible show wpAny _ _ (subscriptTail _ _ (Value.ref _) (Value.int _ _)) _ _ _); k_dflt (refine' item0 ?t ?_; (case t => exact News.isList (by k_asm) (by k_mem)))) | ((with_reducible refine stop_cw ?_); k_dflt (refine' callWith_K0 (Frag.In.keeps KX (Fr.keep (by with_reducible assumption))) ?k2 ?_; (case k2 => k_is); k_whole)) | walk1 | (dsimp only; first | walk1 | (k_unfold; (try dsimp only)))))))
        rename Fr s1.heap _ _ _ => F36
        rename News s1.heap _ _ _ => N36
        refine ne_int_int ?_
        (repeat' (first | (k_unfold; (try dsimp only)) | ((fail_if_success (with_reducible first | refine stop_at [76, 274, 281, 302, 307, 312, 258, 222, 166, 173, 295] (by decide) ?_ | refine stop_pi ?_ | refine stop_ne ?_ | refine stop_eq ?_ | refine stop_st (by decide) ?_ | refine stop_bl (by decide) ?_ | refine stop_lc ?_ | refine stop_jp ?_ | show LCg.CompSrc _ _ _ _ _ _ _ _ _ _ _ _ _ _ | show LCt.CompSrcT _ _ _ _ _ _ _ _ _ _ _ _ _ _ _)); (first | ((with_reducible refine stop_cr ?_); first | (k_here; (with_reducible show wpAny _ _ (call (Value.ref 269) _) _ _ _); k_dflt (refine' hewn_use ?B ?F ?X ?T ?hk ?N ?ho ?U ?hcl ?hi ?hl ?h0 ?h1 ?m0 ?m1 ?d ?u ?_; (case B => k_asm); (case F => k_asm); (case X => k_asm); (case T => k_asm); (case hk => exact rfl); (case N => k_asm); (case ho => assumption); (case U => k_updF); (case hcl => first | (with_reducible assumption) | exact isl_keep (by assumption) (Fr.keep (by k_asm)) | exact News.isList (by k_asm) (by k_mem)); (case hi => assumption); (case hl => assumption); (case h0 => omega); (case h1 => omega); (case m0 => first | decide | omega); (case m1 => first | decide | omega); (case d => first | exact room2 (by assumption) (by exact rfl) | exact room1 (by assumption) (by exact rfl) | omega | decide | (dsimp only [ktrTop]; omega)); (case u => first | exact room2 (by assumption) (by exact rfl) | exact room1 (by assumption) (by exact rfl) | omega | decide | (dsimp only [ktrTop]; omega))); intro _ _ _ _ _ _ _ _ _ _ _; ktr_rel)) | (k_here; (with_reducible show wpAny _ _ (subscriptTail _ _ (Value.ref _) (Value.int _ _)) _ _ _); k_dflt (refine' item0 ?t ?_; (case t => exact News.isList (by k_asm) (by k_mem)))) | ((with_reducible refine stop_cw ?_); k_dflt (refine' callWith_K0 (Frag.In.keeps KX (Fr.keep (by with_reducible assumption))) ?k2 ?_; (case k2 => k_is); k_whole)) | walk1 | (dsimp only; first | walk1 | (k_unfold; (try dsimp only)))))))
        rename Fr s1.heap _ _ _ => F37
        rename News s1.heap _ _ _ => N37
        k_dflt (refine' noop_use2 (base := s1.heap) (pre := [_, _, _, _]) KX TT ⟨KB, F37, KX, TT, rfl⟩ RK26 N37 hwl nil_noop ?d ?u ?_; (case d => first | exact room2 (by assumption) (by exact rfl) | exact room1 (by assumption) (by exact rfl) | omega | decide | (dsimp only [ktrTop]; omega)); (case u => first | exact room2 (by assumption) (by exact rfl) | exact room1 (by assumption) (by exact rfl) | omega | decide | (dsimp only [ktrTop]; omega)))
        intro h38 tk38 F38 N38
        dsimp only [rdL, List.cons_append, List.nil_append] at N38
        clear F37 N37
        (repeat' (first | (k_unfold; (try dsimp only)) | ((fail_if_success (with_reducible first | refine stop_at [76, 274, 281, 302, 307, 312, 258, 222, 166, 173, 295] (by decide) ?_ | refine stop_pi ?_ | refine stop_ne ?_ | refine stop_eq ?_ | refine stop_st (by decide) ?_ | refine stop_bl (by decide) ?_ | refine stop_lc ?_ | refine stop_jp ?_ | show LCg.CompSrc _ _ _ _ _ _ _ _ _ _ _ _ _ _ | show LCt.CompSrcT _ _ _ _ _ _ _ _ _ _ _ _ _ _ _)); (first | ((with_reducible refine stop_cr ?_); first | (k_here; (with_reducible show wpAny _ _ (call (Value.ref 269) _) _ _ _); k_dflt (refine' hewn_use ?B ?F ?X ?T ?hk ?N ?ho ?U ?hcl ?hi ?hl ?h0 ?h1 ?m0 ?m1 ?d ?u ?_; (case B => k_asm); (case F => k_asm); (case X => k_asm); (case T => k_asm); (case hk => exact rfl); (case N => k_asm); (case ho => assumption); (case U => k_updF); (case hcl => first | (with_reducible assumption) | exact isl_keep (by assumption) (Fr.keep (by k_asm)) | exact News.isList (by k_asm) (by k_mem)); (case hi => assumption); (case hl => assumption); (case h0 => omega); (case h1 => omega); (case m0 => first | decide | omega); (case m1 => first | decide | omega); (case d => first | exact room2 (by assumption) (by exact rfl) | exact room1 (by assumption) (by exact rfl) | omega | decide | (dsimp only [ktrTop]; omega)); (case u => first | exact room2 (by assumption) (by exact rfl) | exact room1 (by assumption) (by exact rfl) | omega | decide | (dsimp only [ktrTop]; omega))); intro _ _ _ _ _ _ _ _ _ _ _; ktr_rel)) | (k_here; (with_reducible show wpAny _ _ (subscriptTail _ _ (Value.ref _) (Value.int _ _)) _ _ _); k_dflt (refine' item0 ?t ?_; (case t => exact News.isList (by k_asm) (by k_mem)))) | ((with_reducible refine stop_cw ?_); k_dflt (refine' callWith_K0 (Frag.In.keeps KX (Fr.keep (by with_reducible assumption))) ?k2 ?_; (case k2 => k_is); k_whole)) | walk1 | (dsimp only; first | walk1 | (k_unfold; (try dsimp only)))))))
        rename Fr s1.heap _ _ _ => F39
        rename News s1.heap _ _ _ => N39
        have N40 : News s1.heap s1.heap.objs.size h38 ((ld, o') :: [(Dc, PySem.W.listOf ws.toArray cc0), (s1.heap.objs.size + 1 + 1, ct2), (s1.heap.objs.size + 1, oc)]) := fun p hp => N39 p (all_cons (.tail _ (.head _)) (sub_tail (sub_skip (sub_tail (sub_tail all_nil)))) p hp)
        have hne40 : ∀ x ∈ [(Dc, PySem.W.listOf ws.toArray cc0), (s1.heap.objs.size + 1 + 1, ct2), (s1.heap.objs.size + 1, oc)], x.1 ≠ ld := all_cons (Nat.ne_of_gt l12.2.1) (all_cons (Nat.ne_of_lt l10.1) (all_cons (Nat.ne_of_lt l10.2) all_nil))
        clear N39 hldT hld1 hld2 hld3 RK26
        have hb2 : bnd 2 = 10 := rfl
        k_dflt (refine' lterm_use (nf := 2) ⟨KB, F39, KX, TT, rfl⟩ N40 hne40 hlog (N40.isList (.tail _ (.head _))) hI hns ?h0 ?hk ?d ?u ?_; (case h0 => omega); (case hk => omega); (case d => first | exact room2 (by assumption) (by exact rfl) | exact room1 (by assumption) (by exact rfl) | omega | decide | (dsimp only [ktrTop]; omega)); (case u => first | exact room2 (by assumption) (by exact rfl) | exact room1 (by assumption) (by exact rfl) | omega | decide | (dsimp only [ktrTop]; omega)))
        intro T vT exT h41 tk41 k41 t341 o41 hG hk1 hk2 F41 N41 hlog41 hexT hT
        have hldX : ∀ x ∈ exT, x.1 ≠ ld := fun x hx e => by
          have h1 := hexT x hx
          dsimp only at h1
          rw [e, (N40 (ld, o') (.head _)).1] at h1
          cases h1
        clear hexT N40 F39
        obtain ⟨qT, rfl⟩ := hT.head
        dsimp only [List.cons_append, List.nil_append] at N41
        (repeat' (first | (k_unfold; (try dsimp only)) | ((fail_if_success (with_reducible first | refine stop_at [76, 274, 281, 302, 307, 312, 258, 222, 166, 173, 295] (by decide) ?_ | refine stop_pi ?_ | refine stop_ne ?_ | refine stop_eq ?_ | refine stop_st (by decide) ?_ | refine stop_bl (by decide) ?_ | refine stop_lc ?_ | refine stop_jp ?_ | show LCg.CompSrc _ _ _ _ _ _ _ _ _ _ _ _ _ _ | show LCt.CompSrcT _ _ _ _ _ _ _ _ _ _ _ _ _ _ _)); (first | ((with_reducible refine stop_cr ?_); first | (k_here; (with_reducible show wpAny _ _ (call (Value.ref 269) _) _ _ _); k_dflt (refine' hewn_use ?B ?F ?X ?T ?hk ?N ?ho ?U ?hcl ?hi ?hl ?h0 ?h1 ?m0 ?m1 ?d ?u ?_; (case B => k_asm); (case F => k_asm); (case X => k_asm); (case T => k_asm); (case hk => exact rfl); (case N => k_asm); (case ho => assumption); (case U => k_updF); (case hcl => first | (with_reducible assumption) | exact isl_keep (by assumption) (Fr.keep (by k_asm)) | exact News.isList (by k_asm) (by k_mem)); (case hi => assumption); (case hl => assumption); (case h0 => omega); (case h1 => omega); (case m0 => first | decide | omega); (case m1 => first | decide | omega); (case d => first | exact room2 (by assumption) (by exact rfl) | exact room1 (by assumption) (by exact rfl) | omega | decide | (dsimp only [ktrTop]; omega)); (case u => first | exact room2 (by assumption) (by exact rfl) | exact room1 (by assumption) (by exact rfl) | omega | decide | (dsimp only [ktrTop]; omega))); intro _ _ _ _ _ _ _ _ _ _ _; ktr_rel)) | (k_here; (with_reducible show wpAny _ _ (subscriptTail _ _ (Value.ref _) (Value.int _ _)) _ _ _); k_dflt (refine' item0 ?t ?_; (case t => exact News.isList (by k_asm) (by k_mem)))) | ((with_reducible refine stop_cw ?_); k_dflt (refine' callWith_K0 (Frag.In.keeps KX (Fr.keep (by with_reducible assumption))) ?k2 ?_; (case k2 => k_is); k_whole)) | walk1 | (dsimp only; first | walk1 | (k_unfold; (try dsimp only)))))))
        rename Fr s1.heap _ _ _ => F42
        rename News s1.heap _ _ _ => N42
        have hne42 : ∀ x ∈ (Dc, PySem.W.listOf ws.toArray cc0) :: (s1.heap.objs.size + 1 + 1, ct2) :: (s1.heap.objs.size + 1, oc) :: exT, x.1 ≠ ld := fun x hx => by
          rcases List.mem_cons.mp hx with h | hx
          · exact hne40 x (by rw [h]; exact .head _)
          rcases List.mem_cons.mp hx with h | hx
          · exact hne40 x (by rw [h]; exact .tail _ (.head _))
          rcases List.mem_cons.mp hx with h | hx
          · exact hne40 x (by rw [h]; exact .tail _ (.tail _ (.head _)))
          · exact hldX x hx
        have hlb2 : lenB 2 = 56 := rfl
        refine with_toks ?_
        k_dflt (refine' lwrit_use (nf := 2) hG hT (fun x hx => .tail _ (.tail _ (.tail _ hx))) ⟨KB, F42, KX, TT, rfl⟩ N42 hne42 hlog41 (N42.isList (.tail _ (.head _))) hI hns ?h0 ?hk ?hlb ?d ?u ?_; (case h0 => omega); (case hk => omega); (case hlb => omega); (case d => first | exact room2 (by assumption) (by exact rfl) | exact room1 (by assumption) (by exact rfl) | omega | decide | (dsimp only [ktrTop]; omega)); (case u => first | exact room2 (by assumption) (by exact rfl) | exact room1 (by assumption) (by exact rfl) | omega | decide | (dsimp only [ktrTop]; omega)))
        intro S tS h43 tk43 k43 t343 o43 hWr hSl hk3 hk4 F43 N43 hlog43
        dsimp only
        intro ht43
        clear F42 N42 hne42 hldX
        have hcl : (" :" : PySem.Str).length = 2 := by decide +kernel
        (repeat' (first | (k_unfold; (try dsimp only)) | ((fail_if_success (with_reducible first | refine stop_at [76, 274, 281, 302, 307, 312, 258, 222, 166, 173, 295] (by decide) ?_ | refine stop_pi ?_ | refine stop_ne ?_ | refine stop_eq ?_ | refine stop_st (by decide) ?_ | refine stop_bl (by decide) ?_ | refine stop_lc ?_ | refine stop_jp ?_ | show LCg.CompSrc _ _ _ _ _ _ _ _ _ _ _ _ _ _ | show LCt.CompSrcT _ _ _ _ _ _ _ _ _ _ _ _ _ _ _)); (first | ((with_reducible refine stop_cr ?_); first | (k_here; (with_reducible show wpAny _ _ (call (Value.ref 269) _) _ _ _); k_dflt (refine' hewn_use ?B ?F ?X ?T ?hk ?N ?ho ?U ?hcl ?hi ?hl ?h0 ?h1 ?m0 ?m1 ?d ?u ?_; (case B => k_asm); (case F => k_asm); (case X => k_asm); (case T => k_asm); (case hk => exact rfl); (case N => k_asm); (case ho => assumption); (case U => k_updF); (case hcl => first | (with_reducible assumption) | exact isl_keep (by assumption) (Fr.keep (by k_asm)) | exact News.isList (by k_asm) (by k_mem)); (case hi => assumption); (case hl => assumption); (case h0 => omega); (case h1 => omega); (case m0 => first | decide | omega); (case m1 => first | decide | omega); (case d => first | exact room2 (by assumption) (by exact rfl) | exact room1 (by assumption) (by exact rfl) | omega | decide | (dsimp only [ktrTop]; omega)); (case u => first | exact room2 (by assumption) (by exact rfl) | exact room1 (by assumption) (by exact rfl) | omega | decide | (dsimp only [ktrTop]; omega))); intro _ _ _ _ _ _ _ _ _ _ _; ktr_rel)) | (k_here; (with_reducible show wpAny _ _ (subscriptTail _ _ (Value.ref _) (Value.int _ _)) _ _ _); k_dflt (refine' item0 ?t ?_; (case t => exact News.isList (by k_asm) (by k_mem)))) | ((with_reducible refine stop_cw ?_); k_dflt (refine' callWith_K0 (Frag.In.keeps KX (Fr.keep (by with_reducible assumption))) ?k2 ?_; (case k2 => k_is); k_whole)) | walk1 | (dsimp only; first | walk1 | (k_unfold; (try dsimp only)))))))
        refine strike_use (c := 91) (by first | rfl | decide +kernel) (by first | rfl | decide +kernel) (by show @Ne Nat _ _; first | exact Nat.succ_ne_zero _ | exact Nat.ne_of_gt (Nat.lt_of_lt_of_le (Nat.succ_pos _) (by assumption)) | exact Nat.ne_of_gt (by assumption) | omega) (by show @Ne Nat _ _; first | exact Nat.succ_ne_zero _ | exact Nat.ne_of_gt (Nat.lt_of_lt_of_le (Nat.succ_pos _) (by assumption)) | exact Nat.ne_of_gt (by assumption) | omega) (by show @Ne Nat _ _; first | exact Nat.ne_of_lt (Nat.lt_succ_self _) | omega) (by first | assumption | exact Nat.le_trans (Nat.le_of_eq (by assumption)) (by assumption) | exact Nat.le_trans (by assumption) (by assumption) | omega) (fun t45 k45 ht45 => ?_)
        dsimp only at ht45
        have hsk1 := strike_len 91 text
        (repeat' (first | (k_unfold; (try dsimp only)) | ((fail_if_success (with_reducible first | refine stop_at [76, 274, 281, 302, 307, 312, 258, 222, 166, 173, 295] (by decide) ?_ | refine stop_pi ?_ | refine stop_ne ?_ | refine stop_eq ?_ | refine stop_st (by decide) ?_ | refine stop_bl (by decide) ?_ | refine stop_lc ?_ | refine stop_jp ?_ | show LCg.CompSrc _ _ _ _ _ _ _ _ _ _ _ _ _ _ | show LCt.CompSrcT _ _ _ _ _ _ _ _ _ _ _ _ _ _ _)); (first | ((with_reducible refine stop_cr ?_); first | (k_here; (with_reducible show wpAny _ _ (call (Value.ref 269) _) _ _ _); k_dflt (refine' hewn_use ?B ?F ?X ?T ?hk ?N ?ho ?U ?hcl ?hi ?hl ?h0 ?h1 ?m0 ?m1 ?d ?u ?_; (case B => k_asm); (case F => k_asm); (case X => k_asm); (case T => k_asm); (case hk => exact rfl); (case N => k_asm); (case ho => assumption); (case U => k_updF); (case hcl => first | (with_reducible assumption) | exact isl_keep (by assumption) (Fr.keep (by k_asm)) | exact News.isList (by k_asm) (by k_mem)); (case hi => assumption); (case hl => assumption); (case h0 => omega); (case h1 => omega); (case m0 => first | decide | omega); (case m1 => first | decide | omega); (case d => first | exact room2 (by assumption) (by exact rfl) | exact room1 (by assumption) (by exact rfl) | omega | decide | (dsimp only [ktrTop]; omega)); (case u => first | exact room2 (by assumption) (by exact rfl) | exact room1 (by assumption) (by exact rfl) | omega | decide | (dsimp only [ktrTop]; omega))); intro _ _ _ _ _ _ _ _ _ _ _; ktr_rel)) | (k_here; (with_reducible show wpAny _ _ (subscriptTail _ _ (Value.ref _) (Value.int _ _)) _ _ _); k_dflt (refine' item0 ?t ?_; (case t => exact News.isList (by k_asm) (by k_mem)))) | ((with_reducible refine stop_cw ?_); k_dflt (refine' callWith_K0 (Frag.In.keeps KX (Fr.keep (by with_reducible assumption))) ?k2 ?_; (case k2 => k_is); k_whole)) | walk1 | (dsimp only; first | walk1 | (k_unfold; (try dsimp only)))))))
        refine strike_use (c := 125) (by first | rfl | decide +kernel) (by first | rfl | decide +kernel) (by show @Ne Nat _ _; first | exact Nat.succ_ne_zero _ | exact Nat.ne_of_gt (Nat.lt_of_lt_of_le (Nat.succ_pos _) (by assumption)) | exact Nat.ne_of_gt (by assumption) | omega) (by show @Ne Nat _ _; first | exact Nat.succ_ne_zero _ | exact Nat.ne_of_gt (Nat.lt_of_lt_of_le (Nat.succ_pos _) (by assumption)) | exact Nat.ne_of_gt (by assumption) | omega) (by show @Ne Nat _ _; first | exact Nat.ne_of_lt (Nat.lt_succ_self _) | omega) (by first | assumption | exact Nat.le_trans (Nat.le_of_eq (by assumption)) (by assumption) | exact Nat.le_trans (by assumption) (by assumption) | omega) (fun t46 k46 ht46 => ?_)
        dsimp only at ht46
        have hsk2 := strike_len 125 (strikeS 91 text)
        (repeat' (first | (k_unfold; (try dsimp only)) | ((fail_if_success (with_reducible first | refine stop_at [76, 274, 281, 302, 307, 312, 258, 222, 166, 173, 295] (by decide) ?_ | refine stop_pi ?_ | refine stop_ne ?_ | refine stop_eq ?_ | refine stop_st (by decide) ?_ | refine stop_bl (by decide) ?_ | refine stop_lc ?_ | refine stop_jp ?_ | show LCg.CompSrc _ _ _ _ _ _ _ _ _ _ _ _ _ _ | show LCt.CompSrcT _ _ _ _ _ _ _ _ _ _ _ _ _ _ _)); (first | ((with_reducible refine stop_cr ?_); first | (k_here; (with_reducible show wpAny _ _ (call (Value.ref 269) _) _ _ _); k_dflt (refine' hewn_use ?B ?F ?X ?T ?hk ?N ?ho ?U ?hcl ?hi ?hl ?h0 ?h1 ?m0 ?m1 ?d ?u ?_; (case B => k_asm); (case F => k_asm); (case X => k_asm); (case T => k_asm); (case hk => exact rfl); (case N => k_asm); (case ho => assumption); (case U => k_updF); (case hcl => first | (with_reducible assumption) | exact isl_keep (by assumption) (Fr.keep (by k_asm)) | exact News.isList (by k_asm) (by k_mem)); (case hi => assumption); (case hl => assumption); (case h0 => omega); (case h1 => omega); (case m0 => first | decide | omega); (case m1 => first | decide | omega); (case d => first | exact room2 (by assumption) (by exact rfl) | exact room1 (by assumption) (by exact rfl) | omega | decide | (dsimp only [ktrTop]; omega)); (case u => first | exact room2 (by assumption) (by exact rfl) | exact room1 (by assumption) (by exact rfl) | omega | decide | (dsimp only [ktrTop]; omega))); intro _ _ _ _ _ _ _ _ _ _ _; ktr_rel)) | (k_here; (with_reducible show wpAny _ _ (subscriptTail _ _ (Value.ref _) (Value.int _ _)) _ _ _); k_dflt (refine' item0 ?t ?_; (case t => exact News.isList (by k_asm) (by k_mem)))) | ((with_reducible refine stop_cw ?_); k_dflt (refine' callWith_K0 (Frag.In.keeps KX (Fr.keep (by with_reducible assumption))) ?k2 ?_; (case k2 => k_is); k_whole)) | walk1 | (dsimp only; first | walk1 | (k_unfold; (try dsimp only)))))))
        rename Fr s1.heap _ _ _ => F47
        rename News s1.heap _ _ _ => N47
        have hlL := late_len (S := S) (text := text)
        rw [show S ++ (" :" : PySem.Str) ++ strikeS 125 (strikeS 91 text) = lateT S text from rfl]
        k_dflt (refine' reader_use (base := s1.heap) ⟨KB, F47, KX, TT, rfl⟩ N47 ?l ?d ?u (late_good htc hWr hG) ?_; (case l => omega); (case d => first | exact room2 (by assumption) (by exact rfl) | exact room1 (by assumption) (by exact rfl) | omega | decide | (dsimp only [ktrTop]; omega)); (case u => first | exact room2 (by assumption) (by exact rfl) | exact room1 (by assumption) (by exact rfl) | omega | decide | (dsimp only [ktrTop]; omega)))
        intro rd2 dxr2 rr2 rk2 rtp2 rtd2 rvs2 rn2 rtl2 h48 tk48 F48 N48 RK48 hfr48 hpre48
        clear F47 hfr48
        have RK49 : RdOk rd2 dxr2 rr2 rvs2 (exT ++ rtl2) (wordsT (lateT S text)) := RK48.grow (fun x hx => hpre48 x (.tail _ (.tail _ (.tail _ (.tail _ hx)))))
        have hpre49 : ∀ x ∈ [(ld, o43), (Dc, PySem.W.listOf ws.toArray cc0), (s1.heap.objs.size + 1 + 1, ct2), (s1.heap.objs.size + 1, oc)], x.1 ≠ dxr2 := fun x hx => hpre48 x (sub_tail (sub_tail (sub_tail (sub_tail all_nil))) x hx)
        have N49 : News s1.heap s1.heap.objs.size h48 ((ld, o43) :: (Dc, PySem.W.listOf ws.toArray cc0) :: (s1.heap.objs.size + 1 + 1, ct2) :: (s1.heap.objs.size + 1, oc) :: rdL rd2 dxr2 rr2 rk2 0 0 rtp2 rtd2 rvs2 rn2 (exT ++ rtl2)) := fun p hp => N48 p (sub_tail (sub_tail (sub_tail (sub_tail (sub_swap [_, _, _] exT rtl2)))) p hp)
        clear N48 RK48 hpre48
        obtain ⟨tl2, htl2', hexl⟩ : ∃ tl2, tl2 = exT ++ rtl2 ∧ ∀ x ∈ exT, x ∈ tl2 := ⟨_, rfl, fun x hx => List.mem_append_left _ hx⟩
        rw [← htl2'] at N49 RK49
        clear htl2'
        dsimp only [rdL] at N49
        have hat := late_has (text := text) hWr hG
        obtain ⟨hat1, hat2⟩ := hat.split
        obtain ⟨hok, hdeep⟩ := gd_ok hG
        have hdp2 : dpB 2 = 3 := rfl
        (repeat' (first | (k_unfold; (try dsimp only)) | ((fail_if_success (with_reducible first | refine stop_at [76, 274, 281, 302, 307, 312, 258, 222, 166, 173, 295] (by decide) ?_ | refine stop_pi ?_ | refine stop_ne ?_ | refine stop_eq ?_ | refine stop_st (by decide) ?_ | refine stop_bl (by decide) ?_ | refine stop_lc ?_ | refine stop_jp ?_ | show LCg.CompSrc _ _ _ _ _ _ _ _ _ _ _ _ _ _ | show LCt.CompSrcT _ _ _ _ _ _ _ _ _ _ _ _ _ _ _)); (first | ((with_reducible refine stop_cr ?_); first | (k_here; (with_reducible show wpAny _ _ (call (Value.ref 269) _) _ _ _); k_dflt (refine' hewn_use ?B ?F ?X ?T ?hk ?N ?ho ?U ?hcl ?hi ?hl ?h0 ?h1 ?m0 ?m1 ?d ?u ?_; (case B => k_asm); (case F => k_asm); (case X => k_asm); (case T => k_asm); (case hk => exact rfl); (case N => k_asm); (case ho => assumption); (case U => k_updF); (case hcl => first | (with_reducible assumption) | exact isl_keep (by assumption) (Fr.keep (by k_asm)) | exact News.isList (by k_asm) (by k_mem)); (case hi => assumption); (case hl => assumption); (case h0 => omega); (case h1 => omega); (case m0 => first | decide | omega); (case m1 => first | decide | omega); (case d => first | exact room2 (by assumption) (by exact rfl) | exact room1 (by assumption) (by exact rfl) | omega | decide | (dsimp only [ktrTop]; omega)); (case u => first | exact room2 (by assumption) (by exact rfl) | exact room1 (by assumption) (by exact rfl) | omega | decide | (dsimp only [ktrTop]; omega))); intro _ _ _ _ _ _ _ _ _ _ _; ktr_rel)) | (k_here; (with_reducible show wpAny _ _ (subscriptTail _ _ (Value.ref _) (Value.int _ _)) _ _ _); k_dflt (refine' item0 ?t ?_; (case t => exact News.isList (by k_asm) (by k_mem)))) | ((with_reducible refine stop_cw ?_); k_dflt (refine' callWith_K0 (Frag.In.keeps KX (Fr.keep (by with_reducible assumption))) ?k2 ?_; (case k2 => k_is); k_whole)) | walk1 | (dsimp only; first | walk1 | (k_unfold; (try dsimp only)))))))
        rename Fr s1.heap _ _ _ => F50
        rename News s1.heap _ _ _ => N50
        have hdp3 : T.deep ≤ 3 := by omega
        k_dflt (refine' term_use (pre := [_, _, _, _]) (term_all T) KB F50 KX TT rfl RK49 hpre49 N50 hat1 hok ?hdp ?d ?u ?_; (case hdp => omega); (case d => exact Nat.lt_of_le_of_lt (Nat.add_le_add_left (Nat.mul_le_mul_left 10 hdp3) _) (by decide)); (case u => exact Nat.lt_of_le_of_lt (Nat.add_le_add_left (Nat.mul_le_mul_left 30 hdp3) _) (by decide)))
        intro h51 tk51 tp51 td51 v51 ex51 F51 N51 RK51 hex51 hin51
        dsimp only [rdL, List.cons_append, List.nil_append] at N51
        have hm1 : ∀ x ∈ ex51, x ∈ ex51 ++ tl2 := fun x hx => List.mem_append_left _ hx
        have hm2 : ∀ x ∈ exT, x ∈ ex51 ++ tl2 := fun x hx => List.mem_append_right _ (hexl x hx)
        generalize ex51 ++ tl2 = tl3 at N51 RK51 hm1 hm2
        clear F50 N50 RK49 hex51 hpre49
        obtain ⟨q51, rfl⟩ := hin51.head
        (repeat' (first | (k_unfold; (try dsimp only)) | ((fail_if_success (with_reducible first | refine stop_at [76, 274, 281, 302, 307, 312, 258, 222, 166, 173, 295] (by decide) ?_ | refine stop_pi ?_ | refine stop_ne ?_ | refine stop_eq ?_ | refine stop_st (by decide) ?_ | refine stop_bl (by decide) ?_ | refine stop_lc ?_ | refine stop_jp ?_ | show LCg.CompSrc _ _ _ _ _ _ _ _ _ _ _ _ _ _ | show LCt.CompSrcT _ _ _ _ _ _ _ _ _ _ _ _ _ _ _)); (first | ((with_reducible refine stop_cr ?_); first | (k_here; (with_reducible show wpAny _ _ (call (Value.ref 269) _) _ _ _); k_dflt (refine' hewn_use ?B ?F ?X ?T ?hk ?N ?ho ?U ?hcl ?hi ?hl ?h0 ?h1 ?m0 ?m1 ?d ?u ?_; (case B => k_asm); (case F => k_asm); (case X => k_asm); (case T => k_asm); (case hk => exact rfl); (case N => k_asm); (case ho => assumption); (case U => k_updF); (case hcl => first | (with_reducible assumption) | exact isl_keep (by assumption) (Fr.keep (by k_asm)) | exact News.isList (by k_asm) (by k_mem)); (case hi => assumption); (case hl => assumption); (case h0 => omega); (case h1 => omega); (case m0 => first | decide | omega); (case m1 => first | decide | omega); (case d => first | exact room2 (by assumption) (by exact rfl) | exact room1 (by assumption) (by exact rfl) | omega | decide | (dsimp only [ktrTop]; omega)); (case u => first | exact room2 (by assumption) (by exact rfl) | exact room1 (by assumption) (by exact rfl) | omega | decide | (dsimp only [ktrTop]; omega))); intro _ _ _ _ _ _ _ _ _ _ _; ktr_rel)) | (k_here; (with_reducible show wpAny _ _ (subscriptTail _ _ (Value.ref _) (Value.int _ _)) _ _ _); k_dflt (refine' item0 ?t ?_; (case t => exact News.isList (by k_asm) (by k_mem)))) | ((with_reducible refine stop_cw ?_); k_dflt (refine' callWith_K0 (Frag.In.keeps KX (Fr.keep (by with_reducible assumption))) ?k2 ?_; (case k2 => k_is); k_whole)) | walk1 | (dsimp only; first | walk1 | (k_unfold; (try dsimp only)))))))
        rename Fr s1.heap _ _ _ => F52
        rename News s1.heap _ _ _ => N52
        refine eq_terms (fun x hx => (N52 x (.tail _ (.tail _ (.tail _ (.tail _ (.tail _ (.tail _ (.tail _ (hm1 x hx))))))))).1) (fun x hx => (N52 x (.tail _ (.tail _ (.tail _ (.tail _ (.tail _ (.tail _ (.tail _ (hm2 x hx))))))))).1) hin51 hT (Nat.lt_of_le_of_lt (Nat.add_le_add_left hdp3 _) (by first | decide | (dsimp; decide))) ?_
        obtain ⟨⟨sp52, hw52⟩, _⟩ := hat2
        (repeat' (first | (k_unfold; (try dsimp only)) | ((fail_if_success (with_reducible first | refine stop_at [76, 274, 281, 302, 307, 312, 258, 222, 166, 173, 295] (by decide) ?_ | refine stop_pi ?_ | refine stop_ne ?_ | refine stop_eq ?_ | refine stop_st (by decide) ?_ | refine stop_bl (by decide) ?_ | refine stop_lc ?_ | refine stop_jp ?_ | show LCg.CompSrc _ _ _ _ _ _ _ _ _ _ _ _ _ _ | show LCt.CompSrcT _ _ _ _ _ _ _ _ _ _ _ _ _ _ _)); (first | ((with_reducible refine stop_cr ?_); first | (k_here; (with_reducible show wpAny _ _ (call (Value.ref 269) _) _ _ _); k_dflt (refine' hewn_use ?B ?F ?X ?T ?hk ?N ?ho ?U ?hcl ?hi ?hl ?h0 ?h1 ?m0 ?m1 ?d ?u ?_; (case B => k_asm); (case F => k_asm); (case X => k_asm); (case T => k_asm); (case hk => exact rfl); (case N => k_asm); (case ho => assumption); (case U => k_updF); (case hcl => first | (with_reducible assumption) | exact isl_keep (by assumption) (Fr.keep (by k_asm)) | exact News.isList (by k_asm) (by k_mem)); (case hi => assumption); (case hl => assumption); (case h0 => omega); (case h1 => omega); (case m0 => first | decide | omega); (case m1 => first | decide | omega); (case d => first | exact room2 (by assumption) (by exact rfl) | exact room1 (by assumption) (by exact rfl) | omega | decide | (dsimp only [ktrTop]; omega)); (case u => first | exact room2 (by assumption) (by exact rfl) | exact room1 (by assumption) (by exact rfl) | omega | decide | (dsimp only [ktrTop]; omega))); intro _ _ _ _ _ _ _ _ _ _ _; ktr_rel)) | (k_here; (with_reducible show wpAny _ _ (subscriptTail _ _ (Value.ref _) (Value.int _ _)) _ _ _); k_dflt (refine' item0 ?t ?_; (case t => exact News.isList (by k_asm) (by k_mem)))) | ((with_reducible refine stop_cw ?_); k_dflt (refine' callWith_K0 (Frag.In.keeps KX (Fr.keep (by with_reducible assumption))) ?k2 ?_; (case k2 => k_is); k_whole)) | walk1 | (dsimp only; first | walk1 | (k_unfold; (try dsimp only)))))))
        rename Fr s1.heap _ _ _ => F53
        rename News s1.heap _ _ _ => N53
        k_dflt (refine' word_use (pre := [_, _, _, _]) KB F53 KX TT rfl RK51 N53 hw52 ?d ?u ?_; (case d => first | exact room2 (by assumption) (by exact rfl) | exact room1 (by assumption) (by exact rfl) | omega | decide | (dsimp only [ktrTop]; omega)); (case u => first | exact room2 (by assumption) (by exact rfl) | exact room1 (by assumption) (by exact rfl) | omega | decide | (dsimp only [ktrTop]; omega)))
        intro h54 tk54 tw54 F54 N54
        dsimp only [rdL, List.cons_append, List.nil_append] at N54
        clear F53 N53
        (repeat' (first | (k_unfold; (try dsimp only)) | ((fail_if_success (with_reducible first | refine stop_at [76, 274, 281, 302, 307, 312, 258, 222, 166, 173, 295] (by decide) ?_ | refine stop_pi ?_ | refine stop_ne ?_ | refine stop_eq ?_ | refine stop_st (by decide) ?_ | refine stop_bl (by decide) ?_ | refine stop_lc ?_ | refine stop_jp ?_ | show LCg.CompSrc _ _ _ _ _ _ _ _ _ _ _ _ _ _ | show LCt.CompSrcT _ _ _ _ _ _ _ _ _ _ _ _ _ _ _)); (first | ((with_reducible refine stop_cr ?_); first | (k_here; (with_reducible show wpAny _ _ (call (Value.ref 269) _) _ _ _); k_dflt (refine' hewn_use ?B ?F ?X ?T ?hk ?N ?ho ?U ?hcl ?hi ?hl ?h0 ?h1 ?m0 ?m1 ?d ?u ?_; (case B => k_asm); (case F => k_asm); (case X => k_asm); (case T => k_asm); (case hk => exact rfl); (case N => k_asm); (case ho => assumption); (case U => k_updF); (case hcl => first | (with_reducible assumption) | exact isl_keep (by assumption) (Fr.keep (by k_asm)) | exact News.isList (by k_asm) (by k_mem)); (case hi => assumption); (case hl => assumption); (case h0 => omega); (case h1 => omega); (case m0 => first | decide | omega); (case m1 => first | decide | omega); (case d => first | exact room2 (by assumption) (by exact rfl) | exact room1 (by assumption) (by exact rfl) | omega | decide | (dsimp only [ktrTop]; omega)); (case u => first | exact room2 (by assumption) (by exact rfl) | exact room1 (by assumption) (by exact rfl) | omega | decide | (dsimp only [ktrTop]; omega))); intro _ _ _ _ _ _ _ _ _ _ _; ktr_rel)) | (k_here; (with_reducible show wpAny _ _ (subscriptTail _ _ (Value.ref _) (Value.int _ _)) _ _ _); k_dflt (refine' item0 ?t ?_; (case t => exact News.isList (by k_asm) (by k_mem)))) | ((with_reducible refine stop_cw ?_); k_dflt (refine' callWith_K0 (Frag.In.keeps KX (Fr.keep (by with_reducible assumption))) ?k2 ?_; (case k2 => k_is); k_whole)) | walk1 | (dsimp only; first | walk1 | (k_unfold; (try dsimp only)))))))
        refine eq_str_same ?_
        (repeat' (first | (k_unfold; (try dsimp only)) | ((fail_if_success (with_reducible first | refine stop_at [76, 274, 281, 302, 307, 312, 258, 222, 166, 173, 295] (by decide) ?_ | refine stop_pi ?_ | refine stop_ne ?_ | refine stop_eq ?_ | refine stop_st (by decide) ?_ | refine stop_bl (by decide) ?_ | refine stop_lc ?_ | refine stop_jp ?_ | show LCg.CompSrc _ _ _ _ _ _ _ _ _ _ _ _ _ _ | show LCt.CompSrcT _ _ _ _ _ _ _ _ _ _ _ _ _ _ _)); (first | ((with_reducible refine stop_cr ?_); first | (k_here; (with_reducible show wpAny _ _ (call (Value.ref 269) _) _ _ _); k_dflt (refine' hewn_use ?B ?F ?X ?T ?hk ?N ?ho ?U ?hcl ?hi ?hl ?h0 ?h1 ?m0 ?m1 ?d ?u ?_; (case B => k_asm); (case F => k_asm); (case X => k_asm); (case T => k_asm); (case hk => exact rfl); (case N => k_asm); (case ho => assumption); (case U => k_updF); (case hcl => first | (with_reducible assumption) | exact isl_keep (by assumption) (Fr.keep (by k_asm)) | exact News.isList (by k_asm) (by k_mem)); (case hi => assumption); (case hl => assumption); (case h0 => omega); (case h1 => omega); (case m0 => first | decide | omega); (case m1 => first | decide | omega); (case d => first | exact room2 (by assumption) (by exact rfl) | exact room1 (by assumption) (by exact rfl) | omega | decide | (dsimp only [ktrTop]; omega)); (case u => first | exact room2 (by assumption) (by exact rfl) | exact room1 (by assumption) (by exact rfl) | omega | decide | (dsimp only [ktrTop]; omega))); intro _ _ _ _ _ _ _ _ _ _ _; ktr_rel)) | (k_here; (with_reducible show wpAny _ _ (subscriptTail _ _ (Value.ref _) (Value.int _ _)) _ _ _); k_dflt (refine' item0 ?t ?_; (case t => exact News.isList (by k_asm) (by k_mem)))) | ((with_reducible refine stop_cw ?_); k_dflt (refine' callWith_K0 (Frag.In.keeps KX (Fr.keep (by with_reducible assumption))) ?k2 ?_; (case k2 => k_is); k_whole)) | walk1 | (dsimp only; first | walk1 | (k_unfold; (try dsimp only)))))))
        first | (k_end; kc_close) | (k_end; wrow_close))
end Mine
theorem PySem.Challenge.cw_rg0116_01_holds : PySem.Challenge.rw_rg0116_01.Holds :=
  Mine.thelaw
