import PyProof.Rows.All
import Wide.All
import OpenK.AllK
import Wide.FinOn
import HandS.ForMost
import HandS.ForExc
import HandS.Wide
import HandS.Flow
import HandS.Style
import HandS.Codes
import HandS.ExcInit
import HandS.IsInst
import HandS.Walk
import HandS.RaiseMore
import HandS.Lambda
import HandS.EndTab
import HandS.Small
import HandS.ExcIs
import HandS.ExcField
import KE.KExcIs
import PyProof.ReprRoads
import HandS.EndBits
import KE.KNest
import PySem.Challenge.RW_mustoccur_k86_whole_strings_parsed_as_pl
-- K86Math
set_option linter.all false
set_option maxRecDepth 10000
namespace K86

/-! ### numbers as they are written -/
def dg (c : Nat) : Bool := decide (48 ≤ c) && decide (c ≤ 57)
def val (l : List Nat) : Nat := l.foldl (fun a c => a * 10 + (c - 48)) 0
def num (m : Nat) (l : List Nat) : Bool := !l.isEmpty && l.all dg && (!decide (l.head? = some 48) || decide (l = [48])) && decide (val l ≤ m)

theorem val_from (l : List Nat) : ∀ a : Nat, a ≤ l.foldl (fun a c => a * 10 + (c - 48)) a := by
  induction l with
  | nil => intro a; exact Nat.le_refl _
  | cons c r ih =>
    intro a
    rw [List.foldl_cons]
    have h := ih (a * 10 + (c - 48))
    omega
theorem val_app (l r : List Nat) : val l ≤ val (l ++ r) := by
  unfold val
  rw [List.foldl_append]
  exact val_from r _
theorem val_snoc (l : List Nat) (c : Nat) : val (l ++ [c]) = val l * 10 + (c - 48) := by
  unfold val
  rw [List.foldl_append]
  rfl
theorem num_iff {m : Nat} {l : List Nat} : num m l = true ↔ l ≠ [] ∧ (∀ c ∈ l, dg c = true) ∧ (l.head? ≠ some 48 ∨ l = [48]) ∧ val l ≤ m := by
  unfold num
  simp only [Bool.and_eq_true, Bool.or_eq_true, Bool.not_eq_true', decide_eq_true_eq, decide_eq_false_iff_not, List.all_eq_true, List.isEmpty_eq_false_iff, and_assoc]
theorem num_nil (m : Nat) : num m [] = false := rfl
/-- how many signs of the rest go on with the number -/
def nk (m : Nat) : List Nat → List Nat → Nat
  | _, [] => 0
  | acc, c :: r => if (dg c && !decide (acc = [48]) && decide (val (acc ++ [c]) ≤ m)) = true then nk m (acc ++ [c]) r + 1 else 0
theorem nk_le (m : Nat) : ∀ (r acc : List Nat), nk m acc r ≤ r.length
  | [], _ => Nat.le_refl _
  | c :: r, acc => by
    unfold nk
    split
    · have := nk_le m r (acc ++ [c])
      rw [List.length_cons]
      omega
    · exact Nat.zero_le _
theorem num_snoc {m : Nat} {acc : List Nat} {c : Nat} (ha : acc = [] ∨ num m acc = true) (h : (dg c && !decide (acc = [48]) && decide (val (acc ++ [c]) ≤ m)) = true) : num m (acc ++ [c]) = true := by
  simp only [Bool.and_eq_true, Bool.not_eq_true', decide_eq_true_eq, decide_eq_false_iff_not] at h
  obtain ⟨⟨h1, h2⟩, h3⟩ := h
  refine num_iff.mpr ⟨by simp, fun x hx => ?_, ?_, h3⟩
  · rcases List.mem_append.mp hx with hx | hx
    · rcases ha with ha | ha
      · rw [ha] at hx; cases hx
      · exact (num_iff.mp ha).2.1 x hx
    · rw [List.mem_singleton.mp hx]; exact h1
  · rcases ha with ha | ha
    · subst ha
      by_cases hc : c = 48
      · right; rw [hc]; rfl
      · left; simp [hc]
    · obtain ⟨h4, _, h5, _⟩ := num_iff.mp ha
      rcases h5 with h5 | h5
      · left
        cases acc with
        | nil => exact absurd rfl h4
        | cons a r => simpa using h5
      · exact absurd h5 h2
theorem num_no {m : Nat} {acc t : List Nat} {c : Nat} (h : ¬ (dg c && !decide (acc = [48]) && decide (val (acc ++ [c]) ≤ m)) = true) : num m (acc ++ c :: t) = false := by
  cases e : num m (acc ++ c :: t) with
  | false => rfl
  | true =>
    exfalso
    obtain ⟨_, h1, h2, h3⟩ := num_iff.mp e
    apply h
    simp only [Bool.and_eq_true, Bool.not_eq_true', decide_eq_true_eq, decide_eq_false_iff_not]
    refine ⟨⟨h1 c (by simp), fun ha => ?_⟩, ?_⟩
    · subst ha
      rcases h2 with h2 | h2
      · exact h2 rfl
      · have := congrArg List.length h2
        simp at this
    · have q := val_app (acc ++ [c]) t
      rw [List.append_assoc] at q
      exact Nat.le_trans q h3
/-- which beginnings of the rest make a number -/
theorem nk_iff (m : Nat) : ∀ (r acc : List Nat), (acc = [] ∨ num m acc = true) → ∀ j, j ≤ r.length → (acc ≠ [] ∨ 0 < j) → (num m (acc ++ r.take j) = true ↔ j ≤ nk m acc r)
  | [], acc, ha, j, hj, h0 => by
    have : j = 0 := by simpa using hj
    subst this
    have h0 : acc ≠ [] := h0.elim id (fun z => absurd z (Nat.lt_irrefl 0))
    rcases ha with ha | ha
    · exact absurd ha h0
    · simp [ha]
  | c :: r, acc, ha, j, hj, h0 => by
    cases j with
    | zero =>
      have h0 : acc ≠ [] := h0.elim id (fun z => absurd z (Nat.lt_irrefl 0))
      rcases ha with ha | ha
      · exact absurd ha h0
      · simp [ha]
    | succ j =>
      have hj : j ≤ r.length := by simpa using hj
      rw [List.take_succ_cons]
      unfold nk
      by_cases h : (dg c && !decide (acc = [48]) && decide (val (acc ++ [c]) ≤ m)) = true
      · rw [if_pos h]
        have ih := nk_iff m r (acc ++ [c]) (.inr (num_snoc ha h)) j hj (.inl (by simp))
        rw [List.append_assoc] at ih
        rw [show acc ++ c :: r.take j = acc ++ ([c] ++ r.take j) from rfl, ih]
        omega
      · rw [if_neg h, num_no h]
        simp
/-- what follows the number does not matter -/
theorem nk_app {m : Nat} {x : List Nat} (hx : ∀ d r, x = d :: r → dg d = false) : ∀ (p acc : List Nat), nk m acc (p ++ x) = nk m acc p
  | [], acc => by
    rw [List.nil_append]
    cases x with
    | nil => rfl
    | cons d r =>
      unfold nk
      rw [hx d r rfl, if_neg (by simp)]
  | c :: p, acc => by
    rw [List.cons_append]
    unfold nk
    rw [nk_app hx p (acc ++ [c])]
/-- a number of at most 10 ^ 18 is short -/
theorem val_ge : ∀ (n : Nat) (l : List Nat), l.length = n + 1 → (∀ c ∈ l, dg c = true) → l.head? ≠ some 48 → 10 ^ n ≤ val l
  | 0, l, hl, hd, h0 => by
    match l, hl with
    | [c], _ =>
      have q := hd c (by simp)
      have h0 : c ≠ 48 := fun z => h0 (by rw [z]; rfl)
      unfold dg at q
      simp only [Bool.and_eq_true, decide_eq_true_eq] at q
      show 1 ≤ 0 * 10 + (c - 48)
      omega
  | n + 1, l, hl, hd, h0 => by
    have hne : l ≠ [] := fun z => by rw [z] at hl; cases hl
    have e : l = l.dropLast ++ [l.getLast hne] := (List.dropLast_concat_getLast hne).symm
    have hl' : l.dropLast.length = n + 1 := by rw [List.length_dropLast, hl]; rfl
    have h0' : l.dropLast.head? ≠ some 48 := fun z => by
      apply h0
      rw [e]
      cases q : l.dropLast with
      | nil => rw [q] at hl'; cases hl'
      | cons a r => rw [q] at z; simpa using z
    have ih := val_ge n l.dropLast hl' (fun c hc => hd c (by rw [e]; exact List.mem_append_left _ hc)) h0'
    rw [e, val_snoc, Nat.pow_succ]
    omega
theorem num_short {m : Nat} (hm : m ≤ 10 ^ 18) {l : List Nat} (h : num m l = true) : l.length ≤ 19 := by
  obtain ⟨h1, h2, h3, h4⟩ := num_iff.mp h
  rcases h3 with h3 | h3
  · cases e : l.length with
    | zero => exact Nat.zero_le _
    | succ n =>
      have q := val_ge n l e h2 h3
      have q2 : 10 ^ n ≤ 10 ^ 18 := Nat.le_trans q (Nat.le_trans h4 hm)
      have := (Nat.pow_le_pow_iff_right (by decide : 1 < 10)).mp q2
      omega
  · rw [h3]; decide

/-! ### split at a sign -/
def spc (c : Nat) : List Nat → List (List Nat)
  | [] => [[]]
  | x :: r => if x = c then [] :: spc c r else (x :: (spc c r).headD []) :: (spc c r).tail
def joc (c : Nat) : List (List Nat) → List Nat
  | [] => []
  | [p] => p
  | p :: q :: r => p ++ c :: joc c (q :: r)
theorem spc_ne (c : Nat) (l : List Nat) : spc c l ≠ [] := by
  cases l with
  | nil => simp [spc]
  | cons x r => unfold spc; split <;> simp
theorem spc_none {c : Nat} : ∀ {p : List Nat}, c ∉ p → spc c p = [p]
  | [], _ => rfl
  | x :: p, h => by
    have h1 : x ≠ c := fun z => h (by simp [z])
    have ih := spc_none (c := c) (p := p) (fun z => h (List.mem_cons_of_mem _ z))
    unfold spc
    rw [if_neg h1, ih]
    rfl
theorem spc_app {c : Nat} {r : List Nat} : ∀ {p : List Nat}, c ∉ p → spc c (p ++ c :: r) = p :: spc c r
  | [], _ => by
    rw [List.nil_append]
    show (if c = c then _ else _) = _
    rw [if_pos rfl]
  | x :: p, h => by
    have h1 : x ≠ c := fun z => h (by simp [z])
    have ih := spc_app (c := c) (r := r) (p := p) (fun z => h (List.mem_cons_of_mem _ z))
    rw [List.cons_append]
    show (if x = c then _ else _) = _
    rw [if_neg h1, ih]
    rfl
/-- the last separator -/
theorem spc_last {c : Nat} {w : List Nat} (hw : c ∉ w) : ∀ D : List Nat, spc c (D ++ c :: w) = spc c D ++ [w]
  | [] => by
    rw [List.nil_append]
    show (if c = c then _ else _) = _
    rw [if_pos rfl, spc_none hw]
    rfl
  | x :: D => by
    have ih := spc_last hw D
    rw [List.cons_append]
    show (if x = c then _ else _) = (if x = c then _ else _) ++ _
    rw [ih]
    by_cases h : x = c
    · rw [if_pos h, if_pos h]; rfl
    · rw [if_neg h, if_neg h]
      cases q : spc c D with
      | nil => exact absurd q (spc_ne c D)
      | cons a r => rfl
theorem first_cut (c : Nat) : ∀ l : List Nat, c ∉ l ∨ ∃ p r, l = p ++ c :: r ∧ c ∉ p
  | [] => .inl (by simp)
  | x :: l => by
    by_cases h : x = c
    · exact .inr ⟨[], l, by rw [h]; rfl, by simp⟩
    · rcases first_cut c l with q | ⟨p, r, e, q⟩
      · exact .inl (fun z => (List.mem_cons.mp z).elim (fun e => h e.symm) q)
      · exact .inr ⟨x :: p, r, by rw [e]; rfl, fun z => (List.mem_cons.mp z).elim (fun e => h e.symm) q⟩
theorem spc_free (c : Nat) : ∀ l : List Nat, ∀ p ∈ spc c l, c ∉ p
  | [], p, hp => by
    have : p = [] := by simpa [spc] using hp
    rw [this]; simp
  | x :: l, p, hp => by
    have ih := spc_free c l
    have hp : p ∈ (if x = c then [] :: spc c l else (x :: (spc c l).headD []) :: (spc c l).tail) := hp
    split at hp
    · rcases List.mem_cons.mp hp with e | e
      · rw [e]; simp
      · exact ih p e
    · rename_i hx
      cases q : spc c l with
      | nil => exact absurd q (spc_ne c l)
      | cons a r =>
        rw [q] at hp ih
        rcases List.mem_cons.mp hp with e | e
        · rw [e]
          intro z
          rcases List.mem_cons.mp z with z | z
          · exact hx z.symm
          · exact ih a (by simp) z
        · exact ih p (List.mem_cons_of_mem _ e)
theorem joc_spc (c : Nat) : ∀ l : List Nat, joc c (spc c l) = l
  | [] => rfl
  | x :: l => by
    have ih := joc_spc c l
    show joc c (if x = c then _ else _) = _
    cases q : spc c l with
    | nil => exact absurd q (spc_ne c l)
    | cons a r =>
      rw [q] at ih
      split
      · rename_i hx
        show [] ++ c :: joc c (a :: r) = _
        rw [ih, hx]; rfl
      · show joc c ((x :: a) :: r) = _
        cases r with
        | nil =>
          show x :: a = _
          have ih : a = l := ih
          rw [ih]
        | cons b r =>
          show x :: a ++ c :: joc c (b :: r) = _
          have ih : a ++ c :: joc c (b :: r) = l := ih
          rw [List.cons_append, ih]
theorem spc_joc {c : Nat} : ∀ {ps : List (List Nat)}, ps ≠ [] → (∀ p ∈ ps, c ∉ p) → spc c (joc c ps) = ps
  | [], h, _ => absurd rfl h
  | [p], _, h => spc_none (h p (by simp))
  | p :: q :: r, _, h => by
    show spc c (p ++ c :: joc c (q :: r)) = _
    rw [spc_app (h p (by simp)), spc_joc (by simp) (fun z hz => h z (List.mem_cons_of_mem _ hz))]

/-! ### lists of numbers -/
def big : Nat := 999999
def numsOk (t : List Nat) : Bool := (spc 44 t).all (num big)
def numsBegin (t : List Nat) : Bool := (spc 44 t).dropLast.all (num big) && (decide ((spc 44 t).getLast? = some []) || (match (spc 44 t).getLast? with | some q => num big q | none => false))
/-- the program's reading: the values and where they end, or where it fails -/
def nums : Nat → List Nat → Nat → List Nat → Except Nat (List Nat × Nat)
  | 0, _, off, _ => .error off
  | f + 1, acc, off, r =>
    if nk big [] r = 0 then .error off
    else if (r.drop (nk big [] r)).head? = some 44 then nums f (acc ++ [val (r.take (nk big [] r))]) (off + nk big [] r + 1) (r.drop (nk big [] r + 1))
    else .ok (acc ++ [val (r.take (nk big [] r))], off + nk big [] r)
theorem nums_le : ∀ (f : Nat) (acc : List Nat) (off : Nat) (r vs : List Nat) (o : Nat), nums f acc off r = .ok (vs, o) → off < o ∧ o ≤ off + r.length
  | 0, _, _, _, _, _, h => by cases h
  | f + 1, acc, off, r, vs, o, h => by
    have hle := nk_le big r []
    unfold nums at h
    split at h
    · cases h
    · rename_i h0
      split at h
      · rename_i h1
        have q := nums_le f _ _ _ _ _ h
        rw [List.length_drop] at q
        have : nk big [] r < r.length := by
          rcases Nat.lt_or_ge (nk big [] r) r.length with z | z
          · exact z
          · rw [List.drop_eq_nil_of_le z] at h1
            cases h1
        omega
      · have h := Except.ok.inj h
        have := (Prod.mk.inj h).2
        omega
theorem dg44 : dg 44 = false := by decide
theorem dg32 : dg 32 = false := by decide
theorem numsOk_one {p : List Nat} (h : 44 ∉ p) : numsOk p = num big p := by
  unfold numsOk
  rw [spc_none h]
  simp
theorem numsOk_cons {p r : List Nat} (h : 44 ∉ p) : numsOk (p ++ 44 :: r) = (num big p && numsOk r) := by
  unfold numsOk
  rw [spc_app h, List.all_cons]
theorem numsBegin_one {p : List Nat} (h : 44 ∉ p) : numsBegin p = (decide (p = []) || num big p) := by
  unfold numsBegin
  rw [spc_none h]
  simp
theorem numsBegin_cons {p r : List Nat} (h : 44 ∉ p) : numsBegin (p ++ 44 :: r) = (num big p && numsBegin r) := by
  unfold numsBegin
  rw [spc_app h]
  cases q : spc 44 r with
  | nil => exact absurd q (spc_ne 44 r)
  | cons a s =>
    have e1 : (p :: a :: s).dropLast = p :: (a :: s).dropLast := rfl
    have e2 : (p :: a :: s).getLast? = (a :: s).getLast? := by simp [List.getLast?_cons_cons]
    rw [e1, e2, List.all_cons, Bool.and_assoc]
theorem not_mem_take {c : Nat} {p : List Nat} (h : c ∉ p) (j : Nat) : c ∉ p.take j := fun z => h (List.mem_of_mem_take z)
theorem begin_iff {p : List Nat} (h : 44 ∉ p) {j : Nat} (hj : j ≤ p.length) : numsBegin (p.take j) = true ↔ j ≤ nk big [] p := by
  rw [numsBegin_one (not_mem_take h j)]
  by_cases h0 : j = 0
  · subst h0; simp
  · have hp : p.take j ≠ [] := fun z => by
      have hz : (p.take j).length = 0 := by rw [z]; rfl
      rw [List.length_take] at hz
      omega
    have q := nk_iff big p [] (.inl rfl) j hj (.inr (by omega))
    rw [List.nil_append] at q
    rw [decide_eq_false hp, Bool.false_or]
    exact q
theorem take_over {p r : List Nat} {c j : Nat} (h : p.length < j) : (p ++ c :: r).take j = p ++ c :: r.take (j - p.length - 1) := by
  rw [List.take_append]
  have e1 : p.take j = p := List.take_of_length_le (by omega)
  have e2 : j - p.length = (j - p.length - 1) + 1 := by omega
  rw [e1]
  conv => lhs; rw [e2]
  rw [List.take_succ_cons]
theorem take_in {p r : List Nat} {j : Nat} (h : j ≤ p.length) : (p ++ r).take j = p.take j := List.take_append_of_le_length h
/-- what the program makes of the numbers, and what is asked of them -/
theorem nums_law : ∀ (n : Nat) (t : List Nat), t.length ≤ n → 32 ∉ t → ∀ (tail : List Nat), (tail = [] ∨ ∃ r, tail = 32 :: r) → ∀ (f : Nat) (acc : List Nat) (off : Nat), t.length < f →
    (nums f acc off (t ++ tail) = .ok (acc ++ (spc 44 t).map val, off + t.length) ∧ numsOk t = true ∧ ∀ j, j ≤ t.length → numsBegin (t.take j) = true) ∨
    (∃ k, k ≤ t.length ∧ numsOk t = false ∧ (∀ j, j ≤ t.length → (numsBegin (t.take j) = true ↔ j ≤ k)) ∧
      (nums f acc off (t ++ tail) = .error (off + k) ∨ (k < t.length ∧ ∃ vs, nums f acc off (t ++ tail) = .ok (vs, off + k)))) := by
  intro n
  induction n with
  | zero =>
    intro t ht h32 tail htail f acc off hf
    have e : t = [] := List.eq_nil_of_length_eq_zero (by omega)
    subst e
    refine .inr ⟨0, Nat.le_refl _, by rfl, fun j hj => ?_, .inl ?_⟩
    · have : j = 0 := by simpa using hj
      subst this
      simp [numsBegin, spc]
    · cases f with
      | zero => rfl
      | succ f =>
        have hk : nk big [] ([] ++ tail) = 0 := by
          rw [nk_app (fun d r e => ?_) [] []]
          · rfl
          · rcases htail with q | ⟨r', q⟩
            · rw [q] at e; cases e
            · rw [q] at e
              injection e with e1 _
              rw [← e1]; exact dg32
        unfold nums
        rw [if_pos hk]
        rfl
  | succ n ih =>
    intro t ht h32 tail htail f acc off hf
    obtain ⟨f, rfl⟩ : ∃ g, f = g + 1 := ⟨f - 1, by omega⟩
    have htl : ∀ d r, tail = d :: r → dg d = false := fun d r e => by
      rcases htail with q | ⟨r', q⟩
      · rw [q] at e; cases e
      · rw [q] at e
        injection e with e1 _
        rw [← e1]; exact dg32
    have h44 : tail.head? ≠ some 44 := by
      rcases htail with q | ⟨r', q⟩
      · rw [q]; simp
      · rw [q]; simp
    rcases first_cut 44 t with hc | ⟨p, r, e, hp⟩
    · -- one number
      have hk : nk big [] (t ++ tail) = nk big [] t := nk_app htl t []
      have hle := nk_le big t []
      by_cases hfull : nk big [] t = t.length ∧ t ≠ []
      · obtain ⟨hfull, hne⟩ := hfull
        have hpos : nk big [] t ≠ 0 := by
          rw [hfull]
          intro z
          exact hne (List.eq_nil_of_length_eq_zero z)
        have hnum : num big t = true := by
          have q := (nk_iff big t [] (.inl rfl) t.length (Nat.le_refl _) (.inr (by omega))).mpr (by omega)
          rw [List.take_length, List.nil_append] at q
          exact q
        refine .inl ⟨?_, by rw [numsOk_one hc]; exact hnum, fun j hj => (begin_iff hc hj).mpr (by omega)⟩
        unfold nums
        rw [hk, if_neg hpos, hfull, List.drop_left, if_neg h44, List.take_left, spc_none hc]
        rfl
      · have hnum : num big t = false := by
          cases q : num big t with
          | false => rfl
          | true =>
            exfalso
            have hne : t ≠ [] := (num_iff.mp q).1
            have hl : 0 < t.length := List.length_pos_iff.mpr hne
            have q2 := (nk_iff big t [] (.inl rfl) t.length (Nat.le_refl _) (.inr hl)).mp (by rw [List.take_length, List.nil_append]; exact q)
            exact hfull ⟨by omega, hne⟩
        refine .inr ⟨nk big [] t, hle, by rw [numsOk_one hc]; exact hnum, fun j hj => begin_iff hc hj, ?_⟩
        unfold nums
        rw [hk]
        by_cases h0 : nk big [] t = 0
        · left
          rw [if_pos h0, h0]
          rfl
        · right
          have hlt : nk big [] t < t.length := by
            rcases Nat.lt_or_ge (nk big [] t) t.length with z | z
            · exact z
            · exact absurd ⟨by omega, fun e => by rw [e] at h0; exact h0 rfl⟩ hfull
          refine ⟨hlt, ?_⟩
          rw [if_neg h0]
          have hh : ((t ++ tail).drop (nk big [] t)).head? ≠ some 44 := by
            rw [List.drop_append_of_le_length hle]
            intro z
            have hne2 : t.drop (nk big [] t) ≠ [] := fun e => by
              have := congrArg List.length e
              rw [List.length_drop] at this
              simp at this
              omega
            cases q : t.drop (nk big [] t) with
            | nil => exact hne2 q
            | cons a s =>
              rw [q] at z
              have z : a = 44 := by simpa using z
              apply hc
              apply List.mem_of_mem_drop (i := nk big [] t)
              rw [q, z]
              simp
          rw [if_neg hh]
          exact ⟨_, rfl⟩
    · -- a number, a comma
      have hk : nk big [] (t ++ tail) = nk big [] p := by
        rw [e, List.append_assoc, List.cons_append]
        exact nk_app (fun d r' e' => by injection e' with e1 _; rw [← e1]; exact dg44) p []
      have hle := nk_le big p []
      have hlen : t.length = p.length + r.length + 1 := by rw [e, List.length_append, List.length_cons]; omega
      have h32r : 32 ∉ r := fun z => h32 (by rw [e]; exact List.mem_append_right _ (List.mem_cons_of_mem _ z))
      by_cases hfull : nk big [] p = p.length ∧ p ≠ []
      · obtain ⟨hfull, hne⟩ := hfull
        have hpos : nk big [] p ≠ 0 := by
          rw [hfull]
          intro z
          exact hne (List.eq_nil_of_length_eq_zero z)
        have hnum : num big p = true := by
          have q := (nk_iff big p [] (.inl rfl) p.length (Nat.le_refl _) (.inr (by omega))).mpr (by omega)
          rw [List.take_length, List.nil_append] at q
          exact q
        have hstep : nums (f + 1) acc off (t ++ tail) = nums f (acc ++ [val p]) (off + p.length + 1) (r ++ tail) := by
          conv => lhs; unfold nums
          rw [hk, if_neg hpos, hfull]
          have e2 : t ++ tail = p ++ 44 :: (r ++ tail) := by rw [e, List.append_assoc, List.cons_append]
          rw [e2, List.drop_left, List.take_left]
          rw [if_pos (by rfl)]
          have e3 : (p ++ 44 :: (r ++ tail)).drop (p.length + 1) = r ++ tail := by
            rw [← List.drop_drop, List.drop_left]; rfl
          rw [e3]
        have beg : ∀ j, p.length < j → numsBegin (t.take j) = numsBegin (r.take (j - p.length - 1)) := fun j hj => by
          rw [e, take_over hj, numsBegin_cons hp, hnum, Bool.true_and]
        have beg0 : ∀ j, j ≤ p.length → numsBegin (t.take j) = true := fun j hj => by
          rw [e, take_in hj]
          exact (begin_iff hp hj).mpr (by omega)
        rcases ih r (by omega) h32r tail htail f (acc ++ [val p]) (off + p.length + 1) (by omega) with ⟨h1, h2, h3⟩ | ⟨k, hk1, hk2, hk3, hk4⟩
        · refine .inl ⟨?_, by rw [e, numsOk_cons hp, hnum, h2]; rfl, fun j hj => ?_⟩
          · rw [hstep, h1, e, spc_app hp, List.map_cons, List.append_assoc]
            rw [show off + p.length + 1 + r.length = off + (p ++ 44 :: r).length from by rw [List.length_append, List.length_cons]; omega]
            rfl
          · by_cases hjp : j ≤ p.length
            · exact beg0 j hjp
            · rw [beg j (by omega)]
              exact h3 _ (by omega)
        · refine .inr ⟨p.length + 1 + k, by omega, by rw [e, numsOk_cons hp, hk2, Bool.and_false], fun j hj => ?_, ?_⟩
          · by_cases hjp : j ≤ p.length
            · rw [beg0 j hjp]
              exact iff_of_true rfl (by omega)
            · rw [beg j (by omega), hk3 _ (by omega)]
              omega
          · rw [hstep, show off + (p.length + 1 + k) = off + p.length + 1 + k from by omega]
            rcases hk4 with z | ⟨z1, vs, z2⟩
            · exact .inl z
            · exact .inr ⟨by omega, vs, z2⟩
      · have hnum : num big p = false := by
          cases q : num big p with
          | false => rfl
          | true =>
            exfalso
            have hne : p ≠ [] := (num_iff.mp q).1
            have hl : 0 < p.length := List.length_pos_iff.mpr hne
            have q2 := (nk_iff big p [] (.inl rfl) p.length (Nat.le_refl _) (.inr hl)).mp (by rw [List.take_length, List.nil_append]; exact q)
            exact hfull ⟨by omega, hne⟩
        refine .inr ⟨nk big [] p, by omega, by rw [e, numsOk_cons hp, hnum]; rfl, fun j hj => ?_, ?_⟩
        · by_cases hjp : j ≤ p.length
          · rw [e, take_in hjp]
            exact begin_iff hp hjp
          · rw [e, take_over (by omega), numsBegin_cons hp, hnum, Bool.false_and]
            exact iff_of_false (by simp) (by omega)
        · unfold nums
          rw [hk]
          by_cases h0 : nk big [] p = 0
          · left
            rw [if_pos h0, h0]
            rfl
          · right
            have hlt : nk big [] p < p.length := by
              rcases Nat.lt_or_ge (nk big [] p) p.length with z | z
              · exact z
              · exact absurd ⟨by omega, fun e => by rw [e] at h0; exact h0 rfl⟩ hfull
            refine ⟨by omega, ?_⟩
            rw [if_neg h0]
            have hh : ((t ++ tail).drop (nk big [] p)).head? ≠ some 44 := by
              rw [e, List.append_assoc, List.drop_append_of_le_length hle]
              intro z
              have hne2 : p.drop (nk big [] p) ≠ [] := fun e => by
                have := congrArg List.length e
                rw [List.length_drop] at this
                simp at this
                omega
              cases q : p.drop (nk big [] p) with
              | nil => exact hne2 q
              | cons a s =>
                rw [q] at z
                have z : a = 44 := by simpa using z
                apply hp
                apply List.mem_of_mem_drop (i := nk big [] p)
                rw [q, z]
                simp
            rw [if_neg hh]
            exact ⟨_, rfl⟩
/-! ### one value of a place -/
def letr (c : Nat) : Bool := decide (97 ≤ c) && decide (c ≤ 122)
/-- the values so far, in order -/
abbrev Vls := List (Nat × List Nat)
def usd (u : Vls) (c : Nat) : Bool := u.any fun p => decide (p.1 = c)
def freeL (u : Vls) (c : Nat) : Bool := letr c && !usd u c
def isVal (u : Vls) : List Nat → Bool
  | a :: e :: t => freeL u a && decide (e = 61) && !t.isEmpty && numsOk t
  | _ => false
def begVal (u : Vls) : List Nat → Bool
  | [] => true
  | [a] => freeL u a
  | a :: e :: t => freeL u a && decide (e = 61) && numsBegin t
def valsOf (w : List Nat) : List Nat := (spc 44 (w.drop 2)).map val
/-- the program's loop over the values -/
def pv : Nat → Vls → Nat → List Nat → Except Nat Vls
  | 0, _, off, _ => .error off
  | _ + 1, u, _, [] => .ok u
  | f + 1, u, off, c :: r1 =>
    if c ≠ 32 ∨ 8 ≤ u.length then .error off
    else match r1 with
      | [] => .error (off + 1)
      | a :: r2 =>
        if freeL u a = false then .error (off + 1)
        else match r2 with
          | [] => .error (off + 2)
          | e :: r3 =>
            if e ≠ 61 then .error (off + 2)
            else match nums (r3.length + 1) [] (off + 3) r3 with
              | .error o => .error o
              | .ok (vs, o) => pv f (u ++ [(a, vs)]) o (r3.drop (o - (off + 3)))
theorem numsOk_nil : numsOk [] = false := by rfl
/-- one value -/
theorem part_law (u : Vls) (hu : u.length < 8) (w : List Nat) (h32 : 32 ∉ w) (tail : List Nat) (ht : tail = [] ∨ ∃ r, tail = 32 :: r) (f off : Nat) :
    (∃ a, w.head? = some a ∧ pv (f + 1) u off (32 :: (w ++ tail)) = pv f (u ++ [(a, valsOf w)]) (off + 1 + w.length) tail ∧ isVal u w = true ∧ ∀ j, j ≤ w.length → begVal u (w.take j) = true) ∨
    (∃ k, k ≤ w.length ∧ isVal u w = false ∧ (∀ j, j ≤ w.length → (begVal u (w.take j) = true ↔ j ≤ k)) ∧
      (pv (f + 1) u off (32 :: (w ++ tail)) = .error (off + 1 + k) ∨
        (k < w.length ∧ ∃ u' c r, c ≠ 32 ∧ pv (f + 1) u off (32 :: (w ++ tail)) = pv f u' (off + 1 + k) (c :: r)))) := by
  have hc : ¬ ((32 : Nat) ≠ 32 ∨ 8 ≤ u.length) := by omega
  match w, h32 with
  | [], _ =>
    refine .inr ⟨0, Nat.le_refl _, rfl, fun j hj => ?_, .inl ?_⟩
    · have : j = 0 := by simpa using hj
      subst this
      simp [begVal]
    · rw [List.nil_append]
      unfold pv
      rw [if_neg hc]
      rcases ht with rfl | ⟨r, rfl⟩
      · rfl
      · have e : freeL u 32 = false := by
          unfold freeL
          rw [show letr 32 = false from by decide, Bool.false_and]
        show (if freeL u 32 = false then _ else _) = _
        rw [if_pos e]
  | [a], h32 =>
    cases hf : freeL u a with
    | false =>
      refine .inr ⟨0, Nat.zero_le _, rfl, fun j hj => ?_, .inl ?_⟩
      · have hj : j ≤ 1 := hj
        match j, hj with
        | 0, _ => simp [begVal]
        | 1, _ => simp [begVal, hf]
      · unfold pv
        rw [if_neg hc]
        show (if freeL u a = false then _ else _) = _
        rw [if_pos hf]
    | true =>
      refine .inr ⟨1, Nat.le_refl _, rfl, fun j hj => ?_, .inl ?_⟩
      · have hj : j ≤ 1 := hj
        match j, hj with
        | 0, _ => simp [begVal]
        | 1, _ => simp [begVal, hf]
      · unfold pv
        rw [if_neg hc]
        show (if freeL u a = false then _ else _) = _
        rw [if_neg (by rw [hf]; simp)]
        rcases ht with rfl | ⟨r, rfl⟩
        · rfl
        · show (if (32 : Nat) ≠ 61 then _ else _) = _
          rw [if_pos (by decide)]
  | a :: e :: t, h32 =>
    cases hf : freeL u a with
    | false =>
      refine .inr ⟨0, Nat.zero_le _, by simp [isVal, hf], fun j hj => ?_, .inl ?_⟩
      · match j with
        | 0 => simp [begVal]
        | 1 => simp [begVal, hf]
        | j + 2 => simp [begVal, hf]
      · unfold pv
        rw [if_neg hc]
        show (if freeL u a = false then _ else _) = _
        rw [if_pos hf]
    | true =>
      by_cases he : e = 61
      · subst he
        have h32t : 32 ∉ t := fun z => h32 (List.mem_cons_of_mem _ (List.mem_cons_of_mem _ z))
        have hpv : pv (f + 1) u off (32 :: ((a :: 61 :: t) ++ tail)) = (match nums ((t ++ tail).length + 1) [] (off + 3) (t ++ tail) with
              | .error o => .error o
              | .ok (vs, o) => pv f (u ++ [(a, vs)]) o ((t ++ tail).drop (o - (off + 3)))) := by
          conv => lhs; unfold pv
          rw [if_neg hc]
          show (if freeL u a = false then _ else _) = _
          rw [if_neg (by rw [hf]; simp)]
          show (if (61 : Nat) ≠ 61 then _ else _) = _
          rw [if_neg (by simp)]
          rfl
        have hbeg : ∀ j, begVal u ((a :: 61 :: t).take (j + 2)) = numsBegin (t.take j) := fun j => by
          show begVal u (a :: 61 :: t.take j) = _
          simp [begVal, hf]
        have hbeg0 : ∀ j, j ≤ 2 → begVal u ((a :: 61 :: t).take j) = true := fun j hj => by
          match j, hj with
          | 0, _ => rfl
          | 1, _ => exact hf
          | 2, _ =>
            rw [hbeg 0]
            rfl
        rcases nums_law t.length t (Nat.le_refl _) h32t tail ht ((t ++ tail).length + 1) [] (off + 3) (by rw [List.length_append]; omega) with ⟨h1, h2, h3⟩ | ⟨k, hk1, hk2, hk3, hk4⟩
        · refine .inl ⟨a, rfl, ?_, ?_, fun j hj => ?_⟩
          · rw [hpv, h1]
            show pv f (u ++ [(a, [] ++ (spc 44 t).map val)]) (off + 3 + t.length) ((t ++ tail).drop (off + 3 + t.length - (off + 3))) = _
            rw [show off + 3 + t.length - (off + 3) = t.length from by omega, List.drop_left, show off + 1 + (a :: 61 :: t).length = off + 3 + t.length from by simp only [List.length_cons]; omega]
            rfl
          · have hne : t ≠ [] := fun z => by rw [z, numsOk_nil] at h2; cases h2
            cases t with
            | nil => exact absurd rfl hne
            | cons x t => simp [isVal, hf, h2]
          · match j with
            | 0 => exact hbeg0 0 (by omega)
            | 1 => exact hbeg0 1 (by omega)
            | j + 2 =>
              rw [hbeg j]
              exact h3 j (by simp only [List.length_cons] at hj; omega)
        · refine .inr ⟨k + 2, by simp only [List.length_cons]; omega, by simp [isVal, hk2], fun j hj => ?_, ?_⟩
          · match j with
            | 0 => exact iff_of_true (hbeg0 0 (by omega)) (by omega)
            | 1 => exact iff_of_true (hbeg0 1 (by omega)) (by omega)
            | j + 2 =>
              rw [hbeg j, hk3 j (by simp only [List.length_cons] at hj; omega)]
              omega
          · rw [hpv]
            rcases hk4 with z | ⟨z1, vs, z2⟩
            · left
              rw [z]
              show Except.error _ = Except.error _
              rw [show off + 3 + k = off + 1 + (k + 2) from by omega]
            · right
              refine ⟨by simp only [List.length_cons]; omega, u ++ [(a, vs)], ?_⟩
              rw [z2]
              show ∃ c r, c ≠ 32 ∧ pv f (u ++ [(a, vs)]) (off + 3 + k) ((t ++ tail).drop (off + 3 + k - (off + 3))) = _
              rw [show off + 3 + k - (off + 3) = k from by omega, List.drop_append_of_le_length hk1, show off + 1 + (k + 2) = off + 3 + k from by omega]
              cases q : t.drop k with
              | nil =>
                exfalso
                have hz : (t.drop k).length = 0 := by rw [q]; rfl
                rw [List.length_drop] at hz
                omega
              | cons c r =>
                refine ⟨c, r ++ tail, fun z => ?_, rfl⟩
                apply h32t
                apply List.mem_of_mem_drop (i := k)
                rw [q, z]
                simp
      · refine .inr ⟨1, by simp only [List.length_cons]; omega, by simp [isVal, he], fun j hj => ?_, .inl ?_⟩
        · match j with
          | 0 => simp [begVal]
          | 1 => simp [begVal, hf]
          | j + 2 => simp [begVal, he]
        · unfold pv
          rw [if_neg hc]
          show (if freeL u a = false then _ else _) = _
          rw [if_neg (by rw [hf]; simp)]
          show (if e ≠ 61 then _ else _) = _
          rw [if_pos he]

/-! ### whole places -/
def top : Nat := 10 ^ 18
def placeP : Vls → List (List Nat) → Option Vls
  | u, [] => some u
  | u, w :: ws => if isVal u w = true then placeP (u ++ [(w.headD 0, valsOf w)]) ws else none
/-- what the law's own splitting finds -/
def placeOf (l : List Nat) : Option (Nat × Vls) :=
  if (num top ((spc 32 l).headD []) && decide ((spc 32 l).length ≤ 9)) = true then (placeP [] (spc 32 l).tail).map fun u => (val ((spc 32 l).headD []), u) else none
def beginsF (l : List Nat) : Bool :=
  if (spc 32 l).length = 1 then decide (l = []) || num top l
  else match placeOf (joc 32 (spc 32 l).dropLast) with
    | none => false
    | some p => decide ((spc 32 l).length < 10) && begVal p.2 ((spc 32 l).getLast?.getD [])
/-- the program -/
def parse (l : List Nat) : Except Nat (Nat × Vls) :=
  if nk top [] l = 0 then .error 0
  else match pv (l.length + 1) [] (nk top [] l) (l.drop (nk top [] l)) with
    | .error o => .error o
    | .ok u => .ok (val (l.take (nk top [] l)), u)
theorem placeP_snoc (w : List Nat) : ∀ (ws : List (List Nat)) (u : Vls), placeP u (ws ++ [w]) = (placeP u ws).bind fun v => if isVal v w = true then some (v ++ [(w.headD 0, valsOf w)]) else none
  | [], u => by
    show (if isVal u w = true then some (u ++ [(w.headD 0, valsOf w)]) else none) = _
    rfl
  | x :: ws, u => by
    show (if isVal u x = true then placeP _ (ws ++ [w]) else none) = (if isVal u x = true then placeP _ ws else none).bind _
    by_cases h : isVal u x = true
    · rw [if_pos h, if_pos h, placeP_snoc w ws]
    · rw [if_neg h, if_neg h]; rfl
theorem placeP_len : ∀ (ws : List (List Nat)) (u v : Vls), placeP u ws = some v → v.length = u.length + ws.length
  | [], u, v, h => by
    have h : some u = some v := h
    cases h; rfl
  | w :: ws, u, v, h => by
    have h : (if isVal u w = true then placeP (u ++ [(w.headD 0, valsOf w)]) ws else none) = some v := h
    by_cases q : isVal u w = true
    · rw [if_pos q] at h
      have := placeP_len ws _ v h
      rw [this, List.length_append, List.length_cons]
      simp only [List.length_cons, List.length_nil]
      omega
    · rw [if_neg q] at h; cases h
theorem spc_pos (l : List Nat) : 1 ≤ (spc 32 l).length := List.length_pos_iff.mpr (spc_ne 32 l)
theorem place_one {w : List Nat} (h : 32 ∉ w) : placeOf w = if num top w = true then some (val w, []) else none := by
  unfold placeOf
  rw [spc_none h]
  show (if (num top w && true) = true then some (val w, []) else none) = _
  rw [Bool.and_true]
theorem place_len {l : List Nat} {n : Nat} {u : Vls} (h : placeOf l = some (n, u)) : (spc 32 l).length = u.length + 1 ∧ u.length ≤ 8 := by
  unfold placeOf at h
  split at h
  · rename_i hc
    cases q : placeP [] (spc 32 l).tail with
    | none => rw [q] at h; cases h
    | some v =>
      rw [q] at h
      have h : some (val ((spc 32 l).headD []), v) = some (n, u) := h
      cases h
      have e := placeP_len _ _ _ q
      rw [List.length_tail] at e
      have := spc_pos l
      simp only [List.length_nil] at e
      simp only [Bool.and_eq_true, decide_eq_true_eq] at hc
      omega
  · cases h
theorem place_snoc {w : List Nat} (h : 32 ∉ w) (D : List Nat) : placeOf (D ++ 32 :: w) = (placeOf D).bind fun p => if (decide (p.2.length < 8) && isVal p.2 w) = true then some (p.1, p.2 ++ [(w.headD 0, valsOf w)]) else none := by
  have hp := spc_pos D
  have e1 : (spc 32 D ++ [w]).headD [] = (spc 32 D).headD [] := by
    cases q : spc 32 D with
    | nil => exact absurd q (spc_ne 32 D)
    | cons a r => rfl
  have e2 : (spc 32 D ++ [w]).tail = (spc 32 D).tail ++ [w] := by
    cases q : spc 32 D with
    | nil => exact absurd q (spc_ne 32 D)
    | cons a r => rfl
  cases hD : placeOf D with
  | none =>
    unfold placeOf
    rw [spc_last h, e1, e2, List.length_append, placeP_snoc]
    unfold placeOf at hD
    split
    · rename_i hc
      simp only [Bool.and_eq_true, decide_eq_true_eq, List.length_cons, List.length_nil] at hc
      rw [if_pos (by simp only [Bool.and_eq_true, decide_eq_true_eq]; exact ⟨hc.1, by omega⟩)] at hD
      cases q : placeP [] (spc 32 D).tail with
      | none => rfl
      | some v => rw [q] at hD; cases hD
    · rfl
  | some p =>
    obtain ⟨n, u⟩ := p
    obtain ⟨l1, l2⟩ := place_len hD
    unfold placeOf
    rw [spc_last h, e1, e2, List.length_append, placeP_snoc]
    unfold placeOf at hD
    split at hD
    · rename_i hc
      simp only [Bool.and_eq_true, decide_eq_true_eq] at hc
      cases q : placeP [] (spc 32 D).tail with
      | none => rw [q] at hD; cases hD
      | some v =>
        rw [q] at hD
        have hD : some (val ((spc 32 D).headD []), v) = some (n, u) := hD
        cases hD
        show (if _ then Option.map _ (if isVal u w = true then _ else none) else none) = (if (decide (u.length < 8) && isVal u w) = true then _ else none)
        rw [hc.1, Bool.true_and]
        simp only [List.length_cons, List.length_nil]
        by_cases c1 : u.length < 8
        · rw [if_pos (by simp only [decide_eq_true_eq]; omega), decide_eq_true c1, Bool.true_and]
          by_cases c2 : isVal u w = true
          · rw [if_pos c2, if_pos c2]; rfl
          · rw [if_neg c2, if_neg c2]; rfl
        · rw [if_neg (by simp only [decide_eq_true_eq]; omega), decide_eq_false c1, Bool.false_and, if_neg (by simp)]
    · cases hD
theorem begins_one {w : List Nat} (h : 32 ∉ w) : beginsF w = (decide (w = []) || num top w) := by
  unfold beginsF
  rw [spc_none h]
  rfl
theorem begins_snoc {w : List Nat} (h : 32 ∉ w) (D : List Nat) : beginsF (D ++ 32 :: w) = match placeOf D with
    | none => false
    | some p => decide (p.2.length < 8) && begVal p.2 w := by
  have hp := spc_pos D
  unfold beginsF
  rw [spc_last h, if_neg (by rw [List.length_append, List.length_cons]; omega), List.dropLast_concat, joc_spc, List.length_append, List.getLast?_concat]
  cases hD : placeOf D with
  | none => rfl
  | some p =>
    obtain ⟨n, u⟩ := p
    obtain ⟨l1, l2⟩ := place_len hD
    show (decide ((spc 32 D).length + 1 < 10) && begVal u w) = (decide (u.length < 8) && begVal u w)
    have e : decide ((spc 32 D).length + 1 < 10) = decide (u.length < 8) := by
      rw [l1]
      exact decide_eq_decide.mpr (by omega)
    rw [e]
theorem last_cut (c : Nat) : ∀ l : List Nat, c ∉ l ∨ ∃ D w, l = D ++ c :: w ∧ c ∉ w
  | [] => .inl (by simp)
  | x :: l => by
    rcases last_cut c l with q | ⟨D, w, e, q⟩
    · by_cases h : x = c
      · exact .inr ⟨[], l, by rw [h]; rfl, q⟩
      · exact .inl (fun z => (List.mem_cons.mp z).elim (fun e => h e.symm) q)
    · exact .inr ⟨x :: D, w, by rw [e]; rfl, q⟩
/-- what is no place does not become one behind a blank -/
theorem dead : ∀ (n : Nat) (y X : List Nat), y.length ≤ n → placeOf X = none → placeOf (X ++ 32 :: y) = none ∧ beginsF (X ++ 32 :: y) = false := by
  intro n
  induction n with
  | zero =>
    intro y X hy hX
    have e : y = [] := List.eq_nil_of_length_eq_zero (by omega)
    subst e
    rw [place_snoc (by simp), begins_snoc (by simp), hX]
    exact ⟨rfl, rfl⟩
  | succ n ih =>
    intro y X hy hX
    rcases last_cut 32 y with q | ⟨D, w, e, q⟩
    · rw [place_snoc q, begins_snoc q, hX]
      exact ⟨rfl, rfl⟩
    · have hD : D.length ≤ n := by
        have := congrArg List.length e
        rw [List.length_append, List.length_cons] at this
        omega
      have h1 := (ih D X hD hX).1
      rw [e, show X ++ 32 :: (D ++ 32 :: w) = (X ++ 32 :: D) ++ 32 :: w from by rw [List.append_assoc]; rfl, place_snoc q, begins_snoc q, h1]
      exact ⟨rfl, rfl⟩
theorem spc_two (y : List Nat) : ∀ D : List Nat, (spc 32 (D ++ 32 :: y)).length = (spc 32 D).length + (spc 32 y).length
  | [] => by
    have e : spc 32 ([] ++ 32 :: y) = [] :: spc 32 y := spc_app (by simp)
    rw [e, List.length_cons]
    show _ = 1 + _
    omega
  | x :: D => by
    have ih := spc_two y D
    show (if x = 32 then [] :: spc 32 (D ++ 32 :: y) else (x :: (spc 32 (D ++ 32 :: y)).headD []) :: (spc 32 (D ++ 32 :: y)).tail).length = (if x = 32 then [] :: spc 32 D else (x :: (spc 32 D).headD []) :: (spc 32 D).tail).length + _
    have := spc_pos D
    by_cases hx : x = 32
    · rw [if_pos hx, if_pos hx, List.length_cons, List.length_cons]
      omega
    · rw [if_neg hx, if_neg hx, List.length_cons, List.length_cons, List.length_tail, List.length_tail]
      omega
/-- the same of what has too many parts -/
theorem full {D : List Nat} {n : Nat} {u : Vls} (hD : placeOf D = some (n, u)) (h8 : 8 ≤ u.length) (y : List Nat) : placeOf (D ++ 32 :: y) = none ∧ beginsF (D ++ 32 :: y) = false := by
  rcases last_cut 32 y with q | ⟨D2, w, e, q⟩
  · rw [place_snoc q, begins_snoc q, hD]
    show (if (decide (u.length < 8) && isVal u y) = true then _ else none) = none ∧ (decide (u.length < 8) && _) = false
    rw [decide_eq_false (by omega : ¬ u.length < 8)]
    exact ⟨rfl, rfl⟩
  · have h1 : placeOf (D ++ 32 :: D2) = none := by
      cases h : placeOf (D ++ 32 :: D2) with
      | none => rfl
      | some p =>
        exfalso
        obtain ⟨m, v⟩ := p
        obtain ⟨a1, a2⟩ := place_len h
        obtain ⟨b1, b2⟩ := place_len hD
        rw [spc_two] at a1
        have := spc_pos D2
        omega
    rw [e, show D ++ 32 :: (D2 ++ 32 :: w) = (D ++ 32 :: D2) ++ 32 :: w from by rw [List.append_assoc]; rfl, place_snoc q, begins_snoc q, h1]
    exact ⟨rfl, rfl⟩
def cat : List (List Nat) → List Nat
  | [] => []
  | w :: ws => 32 :: (w ++ cat ws)
theorem cat_tail (ws : List (List Nat)) : cat ws = [] ∨ ∃ r, cat ws = 32 :: r := by
  cases ws with
  | nil => exact .inl rfl
  | cons w ws => exact .inr ⟨_, rfl⟩
/-- what is asked of the outcome -/
def Fits (l : List Nat) (n : Nat) : Except Nat Vls → Prop
  | .ok u => placeOf l = some (n, u)
  | .error o => placeOf l = none ∧ o ≤ l.length ∧ ∀ p, p ≤ l.length → (beginsF (l.take p) = true ↔ p ≤ o)
theorem dead_fits {D y : List Nat} {n o : Nat} (hD : placeOf D = none) (ho : o ≤ D.length) (hb : ∀ p, p ≤ D.length → (beginsF (D.take p) = true ↔ p ≤ o)) (hy : y = [] ∨ ∃ r, y = 32 :: r) : Fits (D ++ y) n (.error o) := by
  rcases hy with rfl | ⟨r, rfl⟩
  · rw [List.append_nil]
    exact ⟨hD, ho, hb⟩
  · refine ⟨(dead r.length r D (Nat.le_refl _) hD).1, by rw [List.length_append]; omega, fun p hp => ?_⟩
    by_cases hpD : p ≤ D.length
    · rw [take_in hpD]
      exact hb p hpD
    · rw [take_over (by omega), (dead _ _ D (Nat.le_refl _) hD).2]
      exact iff_of_false (by simp) (by omega)
theorem pv_stop {f : Nat} {u : Vls} {off c : Nat} {r : List Nat} (hc : c ≠ 32) : pv f u off (c :: r) = .error off := by
  cases f with
  | zero => rfl
  | succ f =>
    unfold pv
    rw [if_pos (.inl hc)]
theorem pv_law : ∀ (ws : List (List Nat)), (∀ w ∈ ws, 32 ∉ w) → ∀ (D : List Nat) (n : Nat) (u : Vls) (f : Nat), placeOf D = some (n, u) → (∀ p, p ≤ D.length → beginsF (D.take p) = true) → ws.length < f →
    Fits (D ++ cat ws) n (pv f u D.length (cat ws))
  | [], _, D, n, u, f, hD, hb, hf => by
    obtain ⟨f, rfl⟩ : ∃ g, f = g + 1 := ⟨f - 1, by omega⟩
    show Fits (D ++ []) n (pv (f + 1) u D.length [])
    rw [List.append_nil]
    exact hD
  | w :: ws, h32, D, n, u, f, hD, hb, hf => by
    obtain ⟨f, rfl⟩ : ∃ g, f = g + 1 := ⟨f - 1, by omega⟩
    obtain ⟨l1, l2⟩ := place_len hD
    have hw : 32 ∉ w := h32 w (by simp)
    by_cases h8 : 8 ≤ u.length
    · have e : pv (f + 1) u D.length (cat (w :: ws)) = .error D.length := by
        show pv (f + 1) u D.length (32 :: (w ++ cat ws)) = _
        unfold pv
        rw [if_pos (.inr h8)]
      rw [e]
      refine ⟨(full hD h8 _).1, by rw [List.length_append]; omega, fun p hp => ?_⟩
      by_cases hpD : p ≤ D.length
      · rw [take_in hpD]
        exact iff_of_true (hb p hpD) hpD
      · rw [show cat (w :: ws) = 32 :: (w ++ cat ws) from rfl, take_over (by omega), (full hD h8 _).2]
        exact iff_of_false (by simp) hpD
    · have h8 : u.length < 8 := by omega
      have eD : D ++ cat (w :: ws) = (D ++ 32 :: w) ++ cat ws := by
        rw [List.append_assoc]; rfl
      have lD : (D ++ 32 :: w).length = D.length + 1 + w.length := by rw [List.length_append, List.length_cons]; omega
      have bD : ∀ j, j ≤ w.length → beginsF ((D ++ 32 :: w).take (D.length + 1 + j)) = begVal u (w.take j) := fun j hj => by
        rw [take_over (by omega), show D.length + 1 + j - D.length - 1 = j from by omega, begins_snoc (not_mem_take hw j), hD]
        show (decide (u.length < 8) && _) = _
        rw [decide_eq_true h8, Bool.true_and]
      have b0 : ∀ p, p ≤ D.length → beginsF ((D ++ 32 :: w).take p) = true := fun p hp => by
        rw [take_in hp]
        exact hb p hp
      rcases part_law u h8 w hw (cat ws) (cat_tail ws) f D.length with ⟨a, ha, h1, h2, h3⟩ | ⟨k, hk1, hk2, hk3, hk4⟩
      · have ea : w.headD 0 = a := by
          cases w with
          | nil => cases ha
          | cons x r =>
            have ha : some x = some a := ha
            cases ha; rfl
        have hD1 : placeOf (D ++ 32 :: w) = some (n, u ++ [(a, valsOf w)]) := by
          rw [place_snoc hw, hD]
          show (if (decide (u.length < 8) && isVal u w) = true then some (n, u ++ [(w.headD 0, valsOf w)]) else none) = _
          rw [decide_eq_true h8, h2, if_pos (by rfl), ea]
        have e : pv (f + 1) u D.length (cat (w :: ws)) = pv f (u ++ [(a, valsOf w)]) (D ++ 32 :: w).length (cat ws) := by
          rw [lD]
          exact h1
        rw [e, eD]
        refine pv_law ws (fun z hz => h32 z (List.mem_cons_of_mem _ hz)) _ n _ f hD1 (fun p hp => ?_) (by simp only [List.length_cons] at hf; omega)
        by_cases hpD : p ≤ D.length
        · exact b0 p hpD
        · rw [lD] at hp
          rw [show p = D.length + 1 + (p - D.length - 1) from by omega, bD _ (by omega)]
          exact h3 _ (by omega)
      · have hD1 : placeOf (D ++ 32 :: w) = none := by
          rw [place_snoc hw, hD]
          show (if (decide (u.length < 8) && isVal u w) = true then some (n, u ++ [(w.headD 0, valsOf w)]) else none) = _
          rw [hk2, Bool.and_false, if_neg (by simp)]
        have e : pv (f + 1) u D.length (cat (w :: ws)) = .error (D.length + 1 + k) := by
          rcases hk4 with z | ⟨z1, u', c, r, z2, z3⟩
          · exact z
          · show pv (f + 1) u D.length (32 :: (w ++ cat ws)) = _
            rw [z3, pv_stop z2]
        rw [e, eD]
        refine dead_fits hD1 (by omega) (fun p hp => ?_) (cat_tail ws)
        by_cases hpD : p ≤ D.length
        · exact iff_of_true (b0 p hpD) (by omega)
        · rw [lD] at hp
          rw [show p = D.length + 1 + (p - D.length - 1) from by omega, bD _ (by omega), hk3 _ (by omega)]
          omega
theorem cat_of : ∀ (l : List Nat), l = (spc 32 l).headD [] ++ cat (spc 32 l).tail
  | [] => rfl
  | x :: l => by
    have ih := cat_of l
    cases q : spc 32 l with
    | nil => exact absurd q (spc_ne 32 l)
    | cons a r =>
      rw [q] at ih
      have ih : l = a ++ cat r := ih
      by_cases hx : x = 32
      · have e : spc 32 (x :: l) = [] :: spc 32 l := by
          show (if x = 32 then _ else _) = _
          rw [if_pos hx]
        rw [e, q, hx]
        show 32 :: l = [] ++ 32 :: (a ++ cat r)
        rw [← ih]; rfl
      · have e : spc 32 (x :: l) = (x :: a) :: r := by
          show (if x = 32 then _ else _) = _
          rw [if_neg hx, q]; rfl
        rw [e]
        show x :: l = (x :: a) ++ cat r
        rw [ih]; rfl
def FitsP (l : List Nat) : Except Nat (Nat × Vls) → Prop
  | .ok p => placeOf l = some p
  | .error o => placeOf l = none ∧ o ≤ l.length ∧ ∀ p, p ≤ l.length → (beginsF (l.take p) = true ↔ p ≤ o)
theorem cat_len : ∀ ws : List (List Nat), ws.length ≤ (cat ws).length
  | [] => Nat.le_refl _
  | w :: ws => by
    have := cat_len ws
    show ws.length + 1 ≤ (32 :: (w ++ cat ws)).length
    rw [List.length_cons, List.length_append]
    omega
/-- THE LAW: the program and the law's own reading agree at every line -/
theorem parse_law (l : List Nat) : FitsP l (parse l) := by
  have hcat := cat_of l
  have hfree := spc_free 32 l
  generalize hp0 : (spc 32 l).headD [] = p0 at hcat
  generalize hws : (spc 32 l).tail = ws at hcat
  have hs : spc 32 l = p0 :: ws := by
    rw [← hp0, ← hws]
    cases q : spc 32 l with
    | nil => exact absurd q (spc_ne 32 l)
    | cons a r => rfl
  have hp : 32 ∉ p0 := hfree p0 (by rw [hs]; simp)
  have hw : ∀ w ∈ ws, 32 ∉ w := fun w hm => hfree w (by rw [hs]; exact List.mem_cons_of_mem _ hm)
  have hk : nk top [] l = nk top [] p0 := by
    rw [hcat]
    refine nk_app (fun d r e => ?_) p0 []
    rcases cat_tail ws with q | ⟨r', q⟩
    · rw [q] at e; cases e
    · rw [q] at e
      injection e with e1 _
      rw [← e1]; exact dg32
  have hle := nk_le top p0 []
  have b : ∀ j, j ≤ p0.length → (beginsF (p0.take j) = true ↔ j ≤ nk top [] p0) := fun j hj => by
    rw [begins_one (not_mem_take hp j)]
    by_cases h0 : j = 0
    · subst h0; simp
    · have hz : p0.take j ≠ [] := fun z => by
        have hz : (p0.take j).length = 0 := by rw [z]; rfl
        rw [List.length_take] at hz
        omega
      have q := nk_iff top p0 [] (.inl rfl) j hj (.inr (by omega))
      rw [List.nil_append] at q
      rw [decide_eq_false hz, Bool.false_or]
      exact q
  by_cases hfull : nk top [] p0 = p0.length ∧ p0 ≠ []
  · obtain ⟨hfull, hne⟩ := hfull
    have hl : 0 < p0.length := List.length_pos_iff.mpr hne
    have hnum : num top p0 = true := by
      have q := (nk_iff top p0 [] (.inl rfl) p0.length (Nat.le_refl _) (.inr hl)).mpr (by omega)
      rw [List.take_length, List.nil_append] at q
      exact q
    have hD : placeOf p0 = some (val p0, []) := by rw [place_one hp, if_pos hnum]
    have hlen : ws.length < l.length + 1 := by
      have := cat_len ws
      have := congrArg List.length hcat
      rw [List.length_append] at this
      omega
    have q := pv_law ws hw p0 (val p0) [] (l.length + 1) hD (fun p hpp => (b p hpp).mpr (by omega)) hlen
    have e1 : l.drop p0.length = cat ws := by rw [hcat, List.drop_left]
    have e2 : l.take p0.length = p0 := by rw [hcat, List.take_left]
    unfold parse
    rw [hk, hfull, if_neg (by omega), e1, e2]
    rw [← hcat] at q
    cases z : pv (l.length + 1) [] p0.length (cat ws) with
    | error o => rw [z] at q; exact q
    | ok u => rw [z] at q; exact q
  · have hnum : num top p0 = false := by
      cases q : num top p0 with
      | false => rfl
      | true =>
        exfalso
        have hne : p0 ≠ [] := (num_iff.mp q).1
        have hl : 0 < p0.length := List.length_pos_iff.mpr hne
        have q2 := (nk_iff top p0 [] (.inl rfl) p0.length (Nat.le_refl _) (.inr hl)).mp (by rw [List.take_length, List.nil_append]; exact q)
        exact hfull ⟨by omega, hne⟩
    have hD : placeOf p0 = none := by rw [place_one hp, if_neg (by rw [hnum]; simp)]
    have q := dead_fits (n := 0) (y := cat ws) hD hle b (cat_tail ws)
    rw [← hcat] at q
    have e : parse l = .error (nk top [] p0) := by
      unfold parse
      rw [hk]
      by_cases h0 : nk top [] p0 = 0
      · rw [if_pos h0, h0]
      · rw [if_neg h0]
        have hlt : nk top [] p0 < p0.length := by
          rcases Nat.lt_or_ge (nk top [] p0) p0.length with z | z
          · exact z
          · exact absurd ⟨by omega, fun e => by rw [e] at h0; exact h0 rfl⟩ hfull
        have e1 : l.drop (nk top [] p0) = p0.drop (nk top [] p0) ++ cat ws := by
          conv => lhs; rw [hcat]
          exact List.drop_append_of_le_length hle
        rw [e1]
        cases z : p0.drop (nk top [] p0) with
        | nil =>
          exfalso
          have hz : (p0.drop (nk top [] p0)).length = 0 := by rw [z]; rfl
          rw [List.length_drop] at hz
          omega
        | cons c r =>
          have hc : c ≠ 32 := fun y => hp (List.mem_of_mem_drop (i := nk top [] p0) (by rw [z, y]; simp))
          rw [List.cons_append, pv_stop hc]
    rw [e]
    exact q
end K86

-- W86a
set_option Elab.async false
set_option linter.all false
set_option maxRecDepth 100000
set_option maxHeartbeats 4000000
namespace W86
open PySem L2 PySem.Spec PyProof.Rows
/-! ### the text by places -/
def st (i : Nat) : Stmt := PySem.Challenge.pw_mustoccur_k86_whole_strings_parsed_as_pl.main.body.getD i (.Pass ⟨0, 0, 0, 0⟩)
/-- the text of these signs -/
abbrev S (l : List Nat) : Str := ⟨l.toArray⟩
theorem S_len (l : List Nat) : (S l).length = l.length := by simp [S, Str.length]
theorem S_tl (x : Str) : S x.cps.toList = x := TL.mk_tl x
theorem S_inj {a b : List Nat} (h : S a = S b) : a = b := congrArg (fun x : Str => x.cps.toList) h
theorem S_cat (a b : List Nat) : S a ++ S b = S (a ++ b) := TL.ext_tl (TL.tl_append (S a) (S b))
theorem S_of (s : String) : Str.ofString s = S (s.toList.map Char.toNat) := TL.ext_tl (TL.tl_ofString s)
theorem V_str {a b : List Nat} : decide (V.str (S a) = V.str (S b)) = decide (a = b) := by
  by_cases h : a = b
  · subst h; simp
  · rw [decide_eq_false h]
    exact decide_eq_false fun z => h (S_inj (V.str.inj z))
theorem line_le {n : Nat} (h : n ≤ 5000) : n ≤ sizeLine := by
  rw [sizeLine_eq]
  omega
/-! ### slices -/
theorem cut2 (l : List Nat) (a b : Nat) : cutS (S l) (some (a : Int)) (some (b : Int)) = S ((l.drop a).take (b - a)) := by
  unfold cutS
  rw [HT.sIx_nat, HT.sIx_nat, S_len]
  refine congrArg (fun z : List Nat => (⟨z.toArray⟩ : Str)) ?_
  show (l.drop (min a l.length)).take (min b l.length - min a l.length) = _
  rcases Nat.lt_or_ge l.length a with h | h
  · rw [List.drop_eq_nil_of_le (i := min a l.length) (by omega), List.drop_eq_nil_of_le (i := a) (by omega), List.take_nil, List.take_nil]
  · rw [show min a l.length = a from by omega]
    rcases Nat.lt_or_ge l.length b with h2 | h2
    · rw [show min b l.length = l.length from by omega, List.take_of_length_le (by rw [List.length_drop]; omega), List.take_of_length_le (by rw [List.length_drop]; omega)]
    · rw [show min b l.length = b from by omega]
theorem cut0 (l : List Nat) (b : Nat) : cutS (S l) none (some (b : Int)) = S (l.take b) := by
  have h := cut2 l 0 b
  rw [List.drop_zero, Nat.sub_zero] at h
  rw [← h]
  unfold cutS
  rw [HT.sIx_nat, HT.sIx_nat]
  show S _ = S _
  simp [HT.sIx_none]
theorem cut1 (l : List Nat) (a : Nat) : cutS (S l) (some (a : Int)) none = S (l.drop a) := by
  unfold cutS
  rw [HT.sIx_nat, HT.sIx_none, S_len]
  refine congrArg (fun z : List Nat => (⟨z.toArray⟩ : Str)) ?_
  show (l.drop (min a l.length)).take (l.length - min a l.length) = _
  rcases Nat.lt_or_ge l.length a with h | h
  · rw [List.drop_eq_nil_of_le (i := min a l.length) (by omega), List.drop_eq_nil_of_le (i := a) (by omega), List.take_nil]
  · rw [show min a l.length = a from by omega, List.take_of_length_le (by rw [List.length_drop]; omega)]
/-! ### figures -/
def figs : List Nat := [48, 49, 50, 51, 52, 53, 54, 55, 56, 57]
theorem fig_eq : Str.ofString "0123456789" = S figs := by decide +kernel
theorem fig_in (c : Nat) : decide (c ∈ figs) = K86.dg c := by
  unfold K86.dg
  rw [← Bool.decide_and]
  refine decide_eq_decide.mpr ?_
  simp only [figs, List.mem_cons, List.not_mem_nil, or_false]
  omega
theorem int_of {l : List Nat} (h : ∀ c ∈ l, K86.dg c = true) (h1 : l ≠ []) (h2 : l.length ≤ 640) : PySem.intText? (S l) = some ((K86.val l : Nat) : Int) := by
  refine intText_digits (x := S l) (fun c hc => ?_) h1 (by rw [S_len]; omega)
  have q := h c hc
  unfold K86.dg at q
  rw [Bool.and_eq_true, decide_eq_true_eq, decide_eq_true_eq] at q
  exact q
/-! ### a def of the text that is called by its name -/
structure Cl (P : Program) (w : World) (K : PySem.W.Frag) (mg : Str → Option Value) (base : Heap) (CX : CXT) (k : Nat) (x : Str) (ps : List Str) (sp : Sp) : Prop where
  ex : ∃ (f : Addr) (fd : FuncData), mg x = some (.ref f) ∧ PySem.W.keepIn K (.ref f) = true ∧ FnOk P w K mg base CX k f fd ps sp ∧ L2.Binds K fd ps []
theorem pe_cl {X : Cx} {CX : CXT} {k j : Nat} {x : Str} {ps : List Str} {sp : Sp} {E : XK} {e : Expr} {es : List Expr} {t : TA} {p pos : Pos} (c : Cl X.prog X.w X.K X.mg X.base CX k x ps sp) (hr : Room j X.A) (hk : k ≤ j) (hg : Gl X x) (hx : L2.Passes CX X E)
    (ha : PA X (e :: es) t) (hdb : (x == ("__debug__" : Str)) = false := by decide) (he : starEach (e :: es) X.env = (false, eval e X.env) :: starEach es X.env := by rfl) (hpl : (backTo pos (starEach es X.env)).any (·.1) = false := by rfl) :
    PE X (.Call (.Name x p) (e :: es) [] pos) (tCall sp [] E t) := by
  obtain ⟨f, fd, hm, hkp, F, hb⟩ := c.ex
  exact pe_call F (hr.mono hk) hg hm hkp hb .nil hx ha hdb he hpl
/-! ### ParseError -/
/-- what the written part says of the class at C, and of its __init__ at fI -/
structure PErr (K : PySem.W.Frag) (mg : Str → Option Value) (C fI : Addr) : Prop where
  gC : mg "ParseError" = some (.ref C)
  ox : OexC K C
  no : PySem.W.findIn K (.ref C) "offset" = some none
  iC : PySem.W.findIn K (.ref C) "__init__" = some (some (.ref fI))
  tI : PySem.W.typeIn K (.ref fI) = some (.type "function")
  vV : PySem.W.findCls K (.type "ValueError") (.type "type") "__init__" = some (.val (.builtin "ValueError.__init__"))
  gV : mg "ValueError" = none
abbrev sInit : Stmt := inClass (st 1) 0
def off (v : V) : List (Str × V) := [("offset", v)]
def spInit (C : Addr) : Sp := fun vs H Q _ => ∃ (a : Addr) (y : V), vs = [.ref a, y] ∧ H a = some (exo a C none) ∧ ∀ d, H d = none → d ≠ a → Q .non (upd (upd H d (exd d (off y))) a (exo a C (some d)))
section
variable {P : Program} {w : World} {K : PySem.W.Frag} {mg : Str → Option Value} {base : Heap}
theorem scInit : FnScope ["self", "offset"] ["self", "offset"] (defScope sInit) := ⟨rfl, rfl, rfl, by decide +kernel, rfl, by decide +kernel, by decide +kernel⟩
theorem ok_init {f C fI : Addr} {fd : FuncData} (F : Fun K "__init__" "ParseError.__init__" sInit f fd) (T : PErr K mg C fI) : FnOk P w K mg base L2.CX0 1 f fd ["self", "offset"] (spInit C) := by
  refine F.ok scInit (fun vs H Q E h => ?_) (fun cdv A outer s H vs Q E hr h => ?_)
  · obtain ⟨a, y, rfl, _⟩ := h
    rfl
  · obtain ⟨a, y, rfl, ha, k⟩ := h
    refine ⟨_, pss_cons (ps_expr (pe_veinit rfl T.gV T.vV (pa_cons (pv 0) (pa_cons pe_str pa_nil)))) (pss_one (ps_ost (pv 0) (pv 1))), ?_⟩
    refine ⟨_, rfl, a, C, _, rfl, by show 1 ≤ 1000; decide, T.ox, ha, ?_⟩
    exact ⟨_, rfl, _, rfl, a, C, rfl, T.ox, T.no, .inl ⟨ha, fun d hd ne => k d hd ne⟩⟩
end
/-- what is wanted of a ParseError with this offset -/
def Rz (C : Addr) (H : Hp) (E : XK) (o : Int) : Prop := ∀ (d : Addr) (H' : Hp), Same H H' → H' d = some (.xd (off (.int o))) → E (.ref C) (some d) H'
theorem Rz.mono {C : Addr} {H H1 : Hp} {E : XK} {o : Int} (h : Rz C H E o) (s : Same H H1) : Rz C H1 E o := fun d H' s' e => h d H' (s.trans s') e
theorem Rz.new {C : Addr} {H : Hp} {E : XK} {o : Int} (h : Rz C H E o) (d : Addr) (hd : H d = none) : E (.ref C) (some d) (upd H d (.xd (off (.int o)))) :=
  h d _ (fun b u e => by rw [upd_ne (ne_of_none e hd)]; exact e) upd_same
/-- raise ParseError(e) -/
def tPE (C : Addr) (W : WX) (te : TE) : TS := fun _ σ H => tMkO C (spInit C) [] (tCons te tNil) σ H fun cls d H' => W cls d σ H'
/-- the answer where e's value is y -/
theorem perr_ans {C : Addr} {H : Hp} {y : V} {Q : XK} (k : ∀ d, H d = none → Q (.ref C) (some d) (upd H d (.xd (off y)))) :
    ([y] : List V).length ≤ 1000 ∧ ∀ a, H a = none → spInit C (.ref a :: ([y] ++ [])) (upd H a (exo a C none))
      (fun v H2 => v = .non ∧ ∃ (d : Addr) (fs : List (Str × V)), H2 a = some (exo a C (some d)) ∧ H2 d = some (exd d fs) ∧ H d = none ∧ Q (.ref C) (some d) (upd (del H2 a) d (.xd fs))) (fun _ _ _ => False) := by
  refine ⟨by show 1 ≤ 1000; decide, fun a ha => ⟨a, y, rfl, upd_same, fun d hd ne => ⟨rfl, d, off y, upd_same, ?_, ?_, ?_⟩⟩⟩
  · rw [upd_ne ne, upd_same]
  · rw [upd_ne ne] at hd
    exact hd
  · rw [upd_ne ne] at hd
    have e : upd (del (upd (upd (upd H a (exo a C none)) d (exd d (off y))) a (exo a C (some d))) a) d (.xd (off y)) = upd H d (.xd (off y)) := by
      funext b
      by_cases h1 : b = d
      · rw [h1, upd_same, upd_same]
      · rw [upd_ne h1, upd_ne h1]
        by_cases h2 : b = a
        · rw [h2, del_same, ha]
        · rw [del_ne h2, upd_ne h2, upd_ne h1, upd_ne h2]
    rw [e]
    exact k d hd
section
variable {X : Cx}
theorem ps_perr {C fI : Addr} {fd : FuncData} {k : Nat} {W : WX} {e : Expr} {te : TE} {p p1 p2 : Pos} (T : PErr X.K X.mg C fI) (F1 : FnOk X.prog X.w X.K X.mg X.base L2.CX0 k fI fd ["self", "offset"] (spInit C)) (hb : L2.Binds X.K fd ["self", "offset"] [])
    (hr : Room (k + 1) X.A) (hc : X.calm = true) (tk : Takes X W) (he : PE X e te) (hg : Gl X "ParseError" := by rfl)
    (hs : starEach (e :: []) X.env = (false, eval e X.env) :: starEach [] X.env := by rfl) (hpl : (backTo p1 (starEach [] X.env)).any (·.1) = false := by rfl) :
    PS X (.Raise (some (.Call (.Name "ParseError" p) [e] [] p1)) none p2) (tPE C W te) :=
  ps_raise (pos := p2) hc tk (pmk_oex (p := p) (pos := p1) T.ox T.iC T.tI F1 hr hb .nil pass0 hg T.gC (pa_cons he pa_nil hs) (by decide) hs hpl)
end
end W86

-- W86b
set_option Elab.async false
set_option linter.all false
set_option maxRecDepth 100000
set_option maxHeartbeats 4000000
namespace W86
open PySem L2 PySem.Spec PyProof.Rows
/-- the names that are built in, the constants of the top -/
structure Bl (mg : Str → Option Value) : Prop where
  len : mg "len" = none
  int : mg "int" = none
  str : mg "str" = none
  isi : mg "isinstance" = none
  list : mg "list" = none
  tuple : mg "tuple" = none
  abs : mg "abs" = none
  min : mg "min" = none
  max : mg "max" = none
  range : mg "range" = none
  repr : mg "repr" = none
  fig : ∃ u, mg "FIGURES" = some u ∧ RelV (.str (S figs)) u
  alp : ∃ u, mg "ALPHABET" = some u ∧ RelV (.str "abcdefghijklmnopqrstuvwxyz") u
  mL : ∃ u, mg "MAX_LETTER" = some u ∧ RelV (.int 999999) u
  mT : ∃ u, mg "MAX_TEXT" = some u ∧ RelV (.int 4096) u
  mV : ∃ u, mg "MAX_VARIABLES" = some u ∧ RelV (.int 8) u
  mS : ∃ u, mg "MAX_START" = some u ∧ RelV (.int 1000000000000000000) u
section
variable {P : Program} {w : World} {K : PySem.W.Frag} {mg : Str → Option Value} {base : Heap}
/-! ### need_string: of a text -/
def spNS : Sp := fun vs H Q _ => ∃ x : Str, vs = [.str x] ∧ Q .non H
theorem scNS : FnScope ["value"] ["value"] (defScope (st 9)) := ⟨rfl, rfl, rfl, by decide +kernel, rfl, by decide +kernel, by decide +kernel⟩
theorem ok_ns {f : Addr} {fd : FuncData} (F : Fun K "need_string" "need_string" (st 9) f fd) (B : Bl mg) : FnOk P w K mg base L2.CX0 1 f fd ["value"] spNS := by
  refine F.ok scNS (fun vs H Q E h => ?_) (fun cdv A outer s H vs Q E hr h => ?_)
  · obtain ⟨x, rfl, _⟩ := h
    rfl
  · obtain ⟨x, rfl, k⟩ := h
    refine ⟨_, pss_one (ps_if (pt_not (pt_val (pe_callB call_isi (by rfl) B.isi PyProof.Rows.boot_isinstance (pa_cons (pv 0) (pa_cons (pe_bltn (v := .ty "str") (by rfl) B.str (by decide +kernel) rfl) pa_nil))))) (pss_one ps_never) pss_nil), ?_⟩
    refine ⟨_, rfl, _, _, _, _, true, rfl, .ty "str", .base (.str x), kit_ty (by decide +kernel), _, rfl, ?_⟩
    exact iteF k
/-! ### number_end -/
def spNE : Sp := fun vs H Q _ => ∃ (l : List Nat) (i m : Nat), vs = [.str (S l), .int i, .int m] ∧ i ≤ l.length ∧ l.length ≤ 600 ∧ Q (.int ((i + K86.nk m [] (l.drop i) : Nat) : Int)) H
/-- behind j signs -/
def ivNE (l : List Nat) (i m : Nat) (H : Hp) : Nat → L2.St → Hp → Prop := fun μ σ H' => H' = H ∧ ∃ j, i + j ≤ l.length ∧ σ = [some (.str (S l)), some (.int i), some (.int m), some (.int ((i + j : Nat) : Int))] ∧
  K86.nk m [] (l.drop i) = j + K86.nk m ((l.drop i).take j) (l.drop (i + j)) ∧ (∀ c ∈ (l.drop i).take j, K86.dg c = true) ∧ μ = l.length - (i + j)
theorem scNE : FnScope ["line", "start", "limit", "end"] ["line", "start", "limit"] (defScope (st 10)) := ⟨rfl, rfl, rfl, by decide +kernel, rfl, by decide +kernel, by decide +kernel⟩
theorem ok_ne {f : Addr} {fd : FuncData} (F : Fun K "number_end" "number_end" (st 10) f fd) (B : Bl mg) : FnOk P w K mg base L2.CX0 1 f fd ["line", "start", "limit"] spNE := by
  refine F.ok scNE (fun vs H Q E h => ?_) (fun cdv A outer s H vs Q E hr h => ?_)
  · obtain ⟨l, i, m, rfl, _⟩ := h
    rfl
  · obtain ⟨l, i, m, rfl, hi, hl, k⟩ := h
    refine ⟨_, pss_cons (ps_set (i := 3) scNE.nd rfl (Or.inl rfl) (pv 1))
      (pss_cons (ps_while PassesOwn.never
        (PW.pt (pw_and (pt_cmpR op_lt (pv 3) (pe_callB call_len_str (by rfl) B.len PySem.boot_len (pa_cons (pv 0) pa_nil)) (nomark _))
          (pw_and (pt_cmpR op_in_sign (pe_ix ix_str (pv 0) (pv 3) (fun _ _ => rfl)) (C8.pe_gc rfl B.fig) (by rfl))
          (pw_and (pt_cmpR op_ne (pe_slice sl_str (pv 0) (po_some (pv 1)) (po_some (pv 3))) pe_str (nomark _))
          (pw_and1 (pt_cmpR op_le (pe_callTy call_int_str (by rfl) B.int (by decide +kernel) (pa_cons (pe_slice sl_str (pv 0) (po_some (pv 1)) (po_some (pe_op op_add (pv 3) pe_int))) pa_nil)) (pv 2) (nomark _)))))))
        (pss_one (ps_aug (i := 3) scNE.nd rfl (Or.inl rfl) pe_int ip_add)))
      (pss_one (ps_ret (pv 3)))), ?_⟩
    refine ⟨_, rfl, ?_⟩
    -- the invariant: j signs are in
    refine ⟨ivNE l i m H, ⟨_, rfl, 0, by omega, by simp; rfl, by simp, by simp, rfl⟩, ?_⟩
    rintro μ σ H' ⟨rfl, j, hj, rfl, hk, hd, rfl⟩
    have out : K86.nk m ((l.drop i).take j) (l.drop (i + j)) = 0 → Q (.int ((i + j : Nat) : Int)) H' := fun z => by
      rw [hk, z, Nat.add_zero] at k
      exact k
    -- end < len(line)
    refine ⟨_, rfl, _, rfl, _, rfl, by rw [S_len]; exact line_le (by omega), _, _, rfl, rfl, _, rfl, ?_⟩
    rw [S_len]
    by_cases h1 : i + j < l.length
    case neg =>
      rw [decide_eq_false (by omega)]
      refine iteF (iteF ⟨_, rfl, out ?_⟩)
      rw [List.drop_eq_nil_of_le (show l.length ≤ i + j by omega)]
      rfl
    rw [decide_eq_true (by omega)]
    refine iteT ?_
    obtain ⟨c, hc⟩ : ∃ c, l[i + j]? = some c := ⟨l[i + j], List.getElem?_eq_getElem h1⟩
    have hdrop : l.drop (i + j) = c :: l.drop (i + j + 1) := by
      rw [List.drop_eq_getElem_cons h1]
      rw [List.getElem?_eq_getElem h1] at hc
      rw [Option.some.inj hc]
    have htake : (l.drop i).take (j + 1) = (l.drop i).take j ++ [c] := by
      rw [List.take_add_one, List.getElem?_drop, hc]
      rfl
    have out2 : ¬ (K86.dg c && !decide ((l.drop i).take j = [48]) && decide (K86.val ((l.drop i).take j ++ [c]) ≤ m)) = true → Q (.int ((i + j : Nat) : Int)) H' := fun z => by
      refine out ?_
      rw [hdrop]
      unfold K86.nk
      rw [if_neg z]
    -- line[end] in FIGURES
    refine ⟨_, rfl, _, rfl, _, _, c, rfl, rfl, by rw [S_len]; exact line_le (by omega), atI_nat hc, c, _, rfl, rfl, _, rfl, ?_⟩
    rw [show (S figs).cps.toList = figs from rfl, fig_in]
    cases hdg : K86.dg c with
    | false => exact iteF (iteF ⟨_, rfl, out2 (by rw [hdg]; simp)⟩)
    | true =>
    refine iteT ?_
    -- line[start:end] != "0"
    refine ⟨_, rfl, _, rfl, _, rfl, _, rfl, _, rfl, _, rfl, by rw [S_len]; exact line_le (by omega), rfl, _, rfl, ?_⟩
    rw [cut2, show i + j - i = j from by omega, show (Str.ofString "0") = S [48] from by decide +kernel, V_str]
    by_cases h0 : (l.drop i).take j = [48]
    · rw [decide_eq_true h0]
      exact iteF (iteF ⟨_, rfl, out2 (by rw [h0]; simp)⟩)
    rw [decide_eq_false h0]
    refine iteT ?_
    -- int(line[start:end + 1]) <= limit
    have hd' : ∀ x ∈ (l.drop i).take (j + 1), K86.dg x = true := fun x hx => by
      rw [htake] at hx
      rcases List.mem_append.mp hx with z | z
      · exact hd x z
      · rw [List.mem_singleton.mp z]; exact hdg
    have hlen : ((l.drop i).take (j + 1)).length ≤ 640 := by
      rw [List.length_take, List.length_drop]
      omega
    have hne : (l.drop i).take (j + 1) ≠ [] := by
      rw [htake]
      simp
    refine ⟨_, rfl, _, rfl, _, rfl, _, rfl, _, _, rfl, rfl, _, rfl, _, rfl, by rw [S_len]; exact line_le (by omega), _, ((K86.val ((l.drop i).take (j + 1)) : Nat) : Int), rfl, ?_, ?_, ?_⟩
    · rw [show ((i + j : Nat) : Int) + 1 = ((i + j + 1 : Nat) : Int) from by omega, cut2, show i + j + 1 - i = j + 1 from by omega]
      exact int_of hd' hne hlen
    · rw [show ((i + j : Nat) : Int) + 1 = ((i + j + 1 : Nat) : Int) from by omega, cut2, show i + j + 1 - i = j + 1 from by omega, S_len]
      exact hlen
    refine ⟨_, rfl, _, _, rfl, rfl, _, rfl, ?_⟩
    by_cases hm : K86.val ((l.drop i).take (j + 1)) ≤ m
    case neg =>
      rw [decide_eq_false (by omega)]
      exact iteF ⟨_, rfl, out2 (by rw [← htake, decide_eq_false hm]; simp)⟩
    rw [decide_eq_true (by omega)]
    refine iteT ⟨fun σ' H2 => ∃ m', m' < l.length - (i + j) ∧ ivNE l i m H' m' σ' H2, fun _ _ e => e, ?_⟩
    refine ⟨_, rfl, _, _, rfl, rfl, l.length - (i + (j + 1)), by omega, rfl, j + 1, by omega, ?_, ?_, hd', rfl⟩
    · rw [show ((i + (j + 1) : Nat) : Int) = ((i + j : Nat) : Int) + 1 from by omega]
      rfl
    · rw [hk, hdrop, htake]
      conv => lhs; unfold K86.nk
      rw [if_pos (by rw [hdg, decide_eq_false h0, ← htake, decide_eq_true hm]; rfl)]
      rw [show i + (j + 1) = i + j + 1 from rfl]
      omega
end
end W86

-- W86c
set_option Elab.async false
set_option linter.all false
set_option maxRecDepth 100000
set_option maxHeartbeats 4000000
namespace W86
open PySem L2 PySem.Spec PyProof.Rows
/-- numbers as values -/
abbrev iv (ns : List Nat) : List V := ns.map fun (n : Nat) => V.int (n : Int)
section
variable {P : Program} {w : World} {K : PySem.W.Frag} {mg : Str → Option Value} {base : Heap}
/-! ### numbers_from -/
def rNF (C : Addr) (H : Hp) (Q : VK) (E : XK) : Except Nat (List Nat × Nat) → Prop
  | .error o => Rz C H E o
  | .ok r => ∀ (p t : Addr) (H' : Hp), Same H H' → H' t = some (.tup (iv r.1)) → H' p = some (.tup [.ref t, .int r.2]) → Q (.ref p) H'
def spNF (C : Addr) : Sp := fun vs H Q E => ∃ (l : List Nat) (i : Nat), vs = [.str (S l), .int i, .str ","] ∧ i ≤ l.length ∧ l.length ≤ 600 ∧ rNF C H Q E (K86.nums ((l.drop i).length + 1) [] i (l.drop i))
/-- at the loop's head -/
def ivNF (l : List Nat) (i : Nat) (H : Hp) (D : Addr) : Nat → L2.St → Hp → Prop := fun μ σ H' => H D = none ∧ ∃ (s f : Nat) (acc : List Nat) (e : Option V), s ≤ l.length ∧ acc.length ≤ s ∧ (l.drop s).length < f ∧ σ = [some (.str (S l)), some (.int s), some (.str ","), some (.ref D), e] ∧
  K86.nums ((l.drop i).length + 1) [] i (l.drop i) = K86.nums f acc s (l.drop s) ∧ Same H H' ∧ H' D = some (.lst (iv acc)) ∧ μ = f
theorem scNF : FnScope ["line", "start", "separator", "numbers", "end"] ["line", "start", "separator"] (defScope (st 11)) := ⟨rfl, rfl, rfl, by decide +kernel, rfl, by decide +kernel, by decide +kernel⟩
theorem comma : Str.ofString "," = S [44] := by decide +kernel
theorem ok_nf {f C fI : Addr} {fd fdI : FuncData} (F : Fun K "numbers_from" "numbers_from" (st 11) f fd) (B : Bl mg) (T : PErr K mg C fI) (F1 : FnOk P w K mg base L2.CX0 1 fI fdI ["self", "offset"] (spInit C)) (b1 : L2.Binds K fdI ["self", "offset"] [])
    (cNE : Cl P w K mg base L2.CX0 1 "number_end" ["line", "start", "limit"] spNE) : FnOk P w K mg base (L2.CX P w) 4 f fd ["line", "start", "separator"] (spNF C) := by
  refine F.okX scNF (fun vs H Q E h => ?_) (fun cdv A outer s H vs Q E hr h => ?_)
  · obtain ⟨l, i, rfl, _⟩ := h
    rfl
  · obtain ⟨l, i, rfl, hi, hl, k⟩ := h
    refine ⟨_, pss_cons (ps_set (i := 3) scNF.nd rfl (Or.inl rfl) (pe_lst pa_nil))
      (pss_one (ps_while (passes_of rfl) (pt_val pe_bl)
        (pss_cons (ps_set (i := 4) scNF.nd rfl (Or.inl rfl) (pe_cl cNE hr (by decide) rfl pass0 (pa_cons (pv 0) (pa_cons (pv 1) (pa_cons (C8.pe_gc rfl B.mL) pa_nil)))))
        (pss_cons (ps_if (pt_cmpR op_eq (pv 4) (pv 1) (nomark _)) (pss_one (ps_perr T F1 b1 (hr.mono (by decide)) rfl (takes_of rfl rfl rfl rfl) (pv 1))) pss_nil)
        (pss_cons (ps_expr (pe_bm PySem.F.plainAttrs_list PySem.F.slot_list_append PySem.F.type_list_append mt_append (pv 3) (pa_cons (pe_callTy call_int_str (by rfl) B.int (by decide +kernel) (pa_cons (pe_slice sl_str (pv 0) (po_some (pv 1)) (po_some (pv 4))) pa_nil)) pa_nil)))
        (pss_cons (ps_if (PW.pt (pw_or (pt_cmpR op_eq (pe_callB call_len_seq (by rfl) B.len PySem.boot_len (pa_cons (pv 3) pa_nil)) (C8.pe_gc rfl B.mT) (nomark _))
            (pw_or1 (pt_cmpR op_ne (pe_slice sl_str (pv 0) (po_some (pv 4)) (po_some (pe_op op_add (pv 4) pe_int))) (pv 2) (nomark _)))))
          (pss_one (ps_ret (pe_tup (pa_cons (pe_callTy call_tuple_of (by rfl) B.tuple (by decide +kernel) (pa_cons (pv 3) pa_nil)) (pa_cons (pv 4) pa_nil))))) pss_nil)
        (pss_one (ps_set (i := 1) scNF.nd rfl (Or.inl rfl) (pe_op op_add (pv 4) pe_int))))))))), ?_⟩
    refine ⟨line_le (by decide), fun D hD => ?_⟩
    refine ⟨ivNF l i H D, ⟨_, hD, i, _, [], none, hi, Nat.zero_le _, Nat.lt_succ_self _, rfl, rfl, fun b o e => by rw [upd_ne (ne_of_none e hD)]; exact e, upd_same, rfl⟩, ?_⟩
    rintro μ σ H1 ⟨hD, s, f, acc, e, hs, ha, hf, rfl, hk, sm, hl1, rfl⟩
    refine ⟨true, rfl, iteT ⟨fun σ' H2 => ∃ m', m' < μ ∧ ivNF l i H D m' σ' H2, fun _ _ e => e, ?_⟩⟩
    obtain ⟨f, rfl⟩ : ∃ g, μ = g + 1 := ⟨μ - 1, by omega⟩
    -- end = number_end(line, start, MAX_LETTER)
    refine ⟨_, rfl, _, rfl, l, s, K86.big, rfl, hs, hl, ?_⟩
    rw [hk] at k
    unfold K86.nums at k
    have hle := K86.nk_le K86.big (l.drop s) []
    rw [List.length_drop] at hle hf
    generalize hn : K86.nk K86.big [] (l.drop s) = n at k hle
    -- if end == start: raise
    refine ⟨_, rfl, _, rfl, rfl, _, rfl, ?_⟩
    by_cases h0 : n = 0
    case pos =>
      subst h0
      rw [Nat.add_zero, decide_eq_true rfl]
      refine iteT ⟨_, rfl, perr_ans fun d hd => ?_⟩
      rw [if_pos rfl] at k
      exact (k.mono sm).new d hd
    rw [decide_eq_false (fun z => by have := V.int.inj z; omega)]
    refine iteF ?_
    rw [if_neg h0] at k
    -- numbers.append(int(line[start:end]))
    have hnum : K86.num K86.big ((l.drop s).take n) = true := by
      have q := (K86.nk_iff K86.big (l.drop s) [] (.inl rfl) n (by rw [List.length_drop]; omega) (.inr (by omega))).mpr (by omega)
      rw [List.nil_append] at q
      exact q
    obtain ⟨q1, q2, _, _⟩ := K86.num_iff.mp hnum
    have hcut : cutS (S l) (some (s : Int)) (some ((s + n : Nat) : Int)) = S ((l.drop s).take n) := by
      rw [cut2, show s + n - s = n from by omega]
    refine ⟨_, rfl, .inl ⟨rfl, _, SqL.of hl1⟩, _, rfl, _, rfl, _, rfl, _, rfl, _, rfl, _, rfl, by rw [S_len]; exact line_le (by omega), _, ((K86.val ((l.drop s).take n) : Nat) : Int), rfl, by rw [hcut]; exact int_of q2 q1 (by rw [List.length_take, List.length_drop]; omega), by rw [hcut, S_len, List.length_take, List.length_drop]; omega,
      D, _, _, rfl, rfl, hl1, by rw [List.length_map]; exact small1000 (by omega), ?_⟩
    have hl2 : upd H1 D (.lst (iv acc ++ [V.int ((K86.val ((l.drop s).take n) : Nat) : Int)])) D = some (.lst (iv (acc ++ [K86.val ((l.drop s).take n)]))) := by
      rw [upd_same, iv, iv, List.map_append]
      rfl
    have sm2 : Same H (upd H1 D (.lst (iv acc ++ [V.int ((K86.val ((l.drop s).take n) : Nat) : Int)]))) := fun b o e => by
      rw [upd_ne (ne_of_none e hD)]
      exact sm b o e
    generalize upd H1 D (.lst (iv acc ++ [V.int ((K86.val ((l.drop s).take n) : Nat) : Int)])) = H2 at hl2 sm2
    -- if len(numbers) == MAX_TEXT or line[end:end + 1] != separator
    refine ⟨_, rfl, D, _, rfl, .inl (SqL.of hl2), rfl, _, rfl, ?_⟩
    rw [decide_eq_false (fun z => by
      have := V.int.inj z
      rw [List.length_map, List.length_append] at this
      simp only [List.length_cons, List.length_nil] at this
      omega)]
    refine iteF ⟨_, rfl, _, rfl, _, rfl, _, rfl, _, _, rfl, rfl, _, rfl, _, rfl, by rw [S_len]; exact line_le (by omega), _, rfl, rfl, _, rfl, ?_⟩
    rw [show ((s + n : Nat) : Int) + 1 = ((s + n + 1 : Nat) : Int) from by omega, cut2, show s + n + 1 - (s + n) = 1 from by omega]
    have ec : decide (V.str (S ((l.drop (s + n)).take 1)) = V.str ",") = decide ((l.drop (s + n)).take 1 = [44]) := by rw [comma, V_str]
    rw [ec]
    have hh : ((l.drop s).drop n).head? = some 44 ↔ (l.drop (s + n)).take 1 = [44] := by
      rw [List.drop_drop]
      cases q : l.drop (s + n) with
      | nil => simp
      | cons a r => simp
    by_cases hc : (l.drop (s + n)).take 1 = [44]
    case neg =>
      rw [decide_eq_false hc]
      refine iteT ⟨_, rfl, D, _, rfl, .inl ⟨SqL.of hl2, fun t ht => ⟨_, rfl, line_le (show 2 ≤ 5000 by decide), fun p hp => ?_⟩⟩⟩
      rw [if_neg (fun z => hc (hh.mp z))] at k
      refine k p t _ (fun b o e => ?_) ?_ upd_same
      · have e2 := sm2 b o e
        rw [upd_ne (ne_of_none (by rw [upd_ne (ne_of_none e2 ht)]; exact e2) hp), upd_ne (ne_of_none e2 ht)]
        exact e2
      · rw [upd_ne (ne_of_none upd_same hp), upd_same]
    rw [decide_eq_true hc]
    refine iteF ?_
    rw [if_pos (hh.mpr hc)] at k
    have hlt : s + n < l.length := by
      rcases Nat.lt_or_ge (s + n) l.length with z | z
      · exact z
      · rw [List.drop_eq_nil_of_le z] at hc
        cases hc
    refine ⟨_, rfl, _, _, rfl, rfl, f, Nat.lt_succ_self _, hD, s + n + 1, f, acc ++ [K86.val ((l.drop s).take n)], some (.int ((s + n : Nat) : Int)), by omega, by rw [List.length_append, List.length_cons, List.length_nil]; omega, by rw [List.length_drop]; omega, ?_, ?_, sm2, hl2, rfl⟩
    · rw [show ((s + n + 1 : Nat) : Int) = ((s + n : Nat) : Int) + 1 from by omega]
      rfl
    · rw [hk]
      conv => lhs; unfold K86.nums
      rw [hn, if_neg h0, if_pos (hh.mpr hc), List.drop_drop]
      rw [show s + (n + 1) = s + n + 1 from rfl]
end
end W86

-- W86d
set_option Elab.async false
set_option linter.all false
set_option maxRecDepth 100000
set_option maxHeartbeats 4000000
namespace W86
open PySem L2 PySem.Spec PyProof.Rows
section
variable {P : Program} {w : World} {K : PySem.W.Frag} {mg : Str → Option Value} {base : Heap}
/-! ### need_sign -/
/-- the signs that a value stands for: a text, or a list of texts of one sign -/
def Sgn (K : PySem.W.Frag) (H : Hp) (g : V) (ok : Nat → Bool) : Prop :=
  (∃ z : List Nat, g = .str (S z) ∧ ∀ c, ok c = decide (c ∈ z)) ∨ ∃ (a : Addr) (cs : List Nat), g = .ref a ∧ SqL K H a (cs.map fun c => V.str (S [c])) ∧ ∀ c, ok c = decide (c ∈ cs)
def spSg (K : PySem.W.Frag) (C : Addr) : Sp := fun vs H Q E => ∃ (l : List Nat) (i : Nat) (g : V) (ok : Nat → Bool), vs = [.str (S l), .int i, g] ∧ l.length ≤ 600 ∧ Sgn K H g ok ∧
  (∀ c, l[i]? = some c → ok c = true → Q .non H) ∧ ((∀ c, l[i]? = some c → ok c = false) → Rz C H E i)
theorem scSg : FnScope ["line", "offset", "signs"] ["line", "offset", "signs"] (defScope (st 12)) := ⟨rfl, rfl, rfl, by decide +kernel, rfl, by decide +kernel, by decide +kernel⟩
theorem empt : Str.ofString "" = S [] := by decide +kernel
theorem inV_sgn (c : Nat) (cs : List Nat) : inV (.str ⟨#[c]⟩) (cs.map fun c => V.str (S [c])) = decide (c ∈ cs) := by
  unfold inV
  rw [List.any_map]
  induction cs with
  | nil => simp
  | cons x r ih =>
    rw [List.any_cons, ih]
    have e : (S [x] == (⟨#[c]⟩ : Str)) = decide (c = x) := by
      rw [show (⟨#[c]⟩ : Str) = S [c] from rfl, SX.S_beq_eq]
      refine decide_eq_decide.mpr ⟨fun z => ?_, fun z => by rw [z]⟩
      cases z; rfl
    show ((S [x] == (⟨#[c]⟩ : Str)) || decide (c ∈ r)) = _
    rw [e, ← Bool.decide_or]
    exact decide_eq_decide.mpr (by simp)
theorem flat_sgn (cs : List Nat) : (cs.map fun c => V.str (S [c])).all flatV = true := by
  rw [List.all_map]
  exact List.all_eq_true.mpr fun _ _ => rfl
theorem ok_sg {f C fI : Addr} {fd fdI : FuncData} (F : Fun K "need_sign" "need_sign" (st 12) f fd) (T : PErr K mg C fI) (F1 : FnOk P w K mg base L2.CX0 1 fI fdI ["self", "offset"] (spInit C)) (b1 : L2.Binds K fdI ["self", "offset"] []) :
    FnOk P w K mg base (L2.CX P w) 3 f fd ["line", "offset", "signs"] (spSg K C) := by
  refine F.okX scSg (fun vs H Q E h => ?_) (fun cdv A outer s H vs Q E hr h => ?_)
  · obtain ⟨l, i, g, ok, rfl, _⟩ := h
    rfl
  · obtain ⟨l, i, g, ok, rfl, hl, hg, kY, kN⟩ := h
    refine ⟨_, pss_one (ps_if (PW.pt (pw_or (pt_cmpR op_eq (pe_slice sl_str (pv 0) (po_some (pv 1)) (po_some (pe_op op_add (pv 1) pe_int))) pe_str (nomark _))
        (pw_or1 (pt_cmpR (OpR.or op_notIn_sign op_notIn_seq) (pe_ix ix_str (pv 0) (pv 1) (fun _ _ => rfl)) (pv 2) (by rfl)))))
      (pss_one (ps_perr T F1 b1 (hr.mono (by decide)) rfl (takes_of rfl rfl rfl rfl) (pv 1))) pss_nil), ?_⟩
    have no : (∀ c, l[i]? = some c → ok c = false) → tPE C (fun cls d _ H => E cls d H) (tVar 1) { nx := fun _ H' => Q .non H', rt := Q } [some (.str (S l)), some (.int i), some g] H := fun z =>
      ⟨_, rfl, perr_ans fun d hd => (kN z).new d hd⟩
    refine ⟨_, rfl, _, rfl, _, rfl, _, rfl, _, _, rfl, rfl, _, rfl, _, rfl, by rw [S_len]; exact line_le (by omega), rfl, _, rfl, ?_⟩
    rw [show (i : Int) + 1 = ((i + 1 : Nat) : Int) from by omega, cut2, show i + 1 - i = 1 from by omega, empt, V_str]
    cases hc : l[i]? with
    | none =>
      have hd : l.drop i = [] := List.drop_eq_nil_of_le (List.getElem?_eq_none_iff.mp hc)
      rw [hd, decide_eq_true (by rfl)]
      exact iteT (iteT (no fun c z => by rw [hc] at z; cases z))
    | some c =>
      have hi : i < l.length := (List.getElem?_eq_some_iff.mp hc).1
      have hd : l.drop i = c :: l.drop (i + 1) := by
        rw [List.drop_eq_getElem_cons hi]
        rw [List.getElem?_eq_getElem hi] at hc
        rw [Option.some.inj hc]
      rw [hd, decide_eq_false (by simp)]
      refine iteF ⟨_, rfl, _, rfl, _, _, c, rfl, rfl, by rw [S_len]; exact line_le (by omega), atI_nat hc, _, rfl, ?_⟩
      rcases hg with ⟨z, rfl, hz⟩ | ⟨a, cs, rfl, hs, hz⟩
      · refine .inl ⟨c, _, rfl, rfl, _, rfl, ?_⟩
        rw [show (S z).cps.toList = z from rfl, ← hz c]
        cases h : ok c with
        | true => exact iteF (kY c hc h)
        | false => exact iteT (no fun c' e => by rw [hc] at e; cases e; exact h)
      · refine .inr ⟨a, _, rfl, .inl hs, rfl, flat_sgn cs, _, rfl, ?_⟩
        rw [if_pos rfl, inV_sgn, ← hz c]
        cases h : ok c with
        | true => exact iteF (kY c hc h)
        | false => exact iteT (no fun c' e => by rw [hc] at e; cases e; exact h)
end
end W86

-- W86e
set_option Elab.async false
set_option linter.all false
set_option maxRecDepth 100000
set_option maxHeartbeats 4000000
namespace W86
open PySem L2 PySem.Spec PyProof.Rows
/-! ### the values of a place in the heap -/
def EntAt (H : Hp) (p : Nat × List Nat) (q : Key × V) : Prop := q.1 = Sum.inr (S [p.1]) ∧ ∃ t, q.2 = .ref t ∧ H t = some (.tup (iv p.2))
def DctAt (H : Hp) (d : Addr) (u : K86.Vls) : Prop := ∃ kvs, H d = some (.dK kvs) ∧ Paired (EntAt H) u kvs
def PlAt (H : Hp) (p : Addr) (n : Nat) (u : K86.Vls) : Prop := ∃ d, H p = some (.tup [.int n, .ref d]) ∧ DctAt H d u
theorem ents_mono {H H' : Hp} (k : ∀ t xs, H t = some (.tup xs) → H' t = some (.tup xs)) : ∀ {u : K86.Vls} {kvs : List (Key × V)}, Paired (EntAt H) u kvs → Paired (EntAt H') u kvs
  | _, _, .nil => .nil
  | _, _, .cons ⟨h1, t, h2, h3⟩ r => .cons ⟨h1, t, h2, k _ _ h3⟩ (ents_mono k r)
theorem DctAt.same {H H' : Hp} {d : Addr} {u : K86.Vls} (h : DctAt H d u) (s : Same H H') : DctAt H' d u := by
  obtain ⟨kvs, h1, h2⟩ := h
  exact ⟨kvs, s _ _ h1, ents_mono (fun t xs e => s _ _ e) h2⟩
theorem PlAt.same {H H' : Hp} {p : Addr} {n : Nat} {u : K86.Vls} (h : PlAt H p n u) (s : Same H H') : PlAt H' p n u := by
  obtain ⟨d, h1, h2⟩ := h
  exact ⟨d, s _ _ h1, h2.same s⟩
theorem ents_get {H : Hp} (c : Nat) : ∀ {u : K86.Vls} {kvs : List (Key × V)}, Paired (EntAt H) u kvs → (valV kvs (Sum.inr (S [c]) : Key)).isSome = K86.usd u c
  | _, _, .nil => rfl
  | _, _, .cons (a := a) (b := b) (l₁ := u) (l₂ := kvs) ⟨h1, t, h2, h3⟩ r => by
    have ih := ents_get c r
    show _ = (decide (a.1 = c) || K86.usd u c)
    by_cases h : a.1 = c
    · rw [valV_pos (by rw [h1, h]), decide_eq_true h]
      rfl
    · rw [valV_neg (fun z => by rw [h1] at z; exact h (by have := S_inj (Sum.inr.inj z); cases this; rfl)), decide_eq_false h, ih]
      rfl
theorem get_none {H : Hp} {c : Nat} {u : K86.Vls} {kvs : List (Key × V)} (h : Paired (EntAt H) u kvs) (hn : K86.usd u c = false) : valV kvs (Sum.inr (S [c]) : Key) = none := by
  have q := ents_get c h
  rw [hn] at q
  cases e : valV kvs (Sum.inr (S [c]) : Key) with
  | none => rfl
  | some v => rw [e] at q; cases q
/-- one more value is laid -/
theorem DctAt.put {H : Hp} {d t : Addr} {u : K86.Vls} {a : Nat} {ns : List Nat} {kvs : List (Key × V)} (h1 : H d = some (.dK kvs)) (h2 : Paired (EntAt H) u kvs) (hn : K86.usd u a = false) (ht : H t = some (.tup (iv ns))) :
    DctAt (upd H d (.dK (putK kvs (Sum.inr (S [a])) (.ref t)))) d (u ++ [(a, ns)]) := by
  have k : ∀ b xs, H b = some (.tup xs) → (upd H d (.dK (putK kvs (Sum.inr (S [a])) (.ref t)))) b = some (.tup xs) := fun b xs e => by
    rw [upd_ne (ne_of e h1 (by intro z; cases z))]
    exact e
  refine ⟨_, upd_same, ?_⟩
  have e : putK kvs (Sum.inr (S [a]) : Key) (V.ref t) = kvs ++ [(Sum.inr (S [a]), V.ref t)] := putK_new _ (get_none h2 hn)
  generalize upd H d (.dK (putK kvs (Sum.inr (S [a])) (.ref t))) = H' at k ⊢
  rw [e]
  exact Paired.snoc (ents_mono k h2) ⟨rfl, t, rfl, k _ _ ht⟩
/-! ### the alphabet -/
def alph : List Nat := (List.range 26).map (97 + ·)
theorem alph_eq : Str.ofString "abcdefghijklmnopqrstuvwxyz" = S alph := by decide +kernel
theorem alph_in (c : Nat) : decide (c ∈ alph) = K86.letr c := by
  unfold K86.letr
  rw [← Bool.decide_and]
  refine decide_eq_decide.mpr ?_
  simp only [alph, List.mem_map, List.mem_range]
  constructor
  · rintro ⟨k, hk, rfl⟩
    omega
  · rintro ⟨h1, h2⟩
    exact ⟨c - 97, by omega, by omega⟩
/-- those that are free -/
def freeA (u : K86.Vls) (i : Nat) : List Nat := (alph.take i).filter fun c => !K86.usd u c
theorem freeA_in (u : K86.Vls) (c : Nat) : decide (c ∈ freeA u 26) = K86.freeL u c := by
  have e : alph.take 26 = alph := by decide
  unfold freeA K86.freeL
  rw [e, ← alph_in c]
  by_cases h : c ∈ alph
  · rw [decide_eq_true h, Bool.true_and]
    cases q : K86.usd u c with
    | true => exact decide_eq_false fun z => by have := (List.mem_filter.mp z).2; rw [q] at this; cases this
    | false => exact decide_eq_true (List.mem_filter.mpr ⟨h, by rw [q]; rfl⟩)
  · rw [decide_eq_false h, Bool.false_and]
    exact decide_eq_false fun z => h (List.mem_filter.mp z).1
theorem freeA_next {u : K86.Vls} {i c : Nat} (h : alph[i]? = some c) : freeA u (i + 1) = if K86.usd u c = true then freeA u i else freeA u i ++ [c] := by
  unfold freeA
  rw [List.take_add_one, h, List.filter_append]
  by_cases q : K86.usd u c = true
  · rw [if_pos q]
    simp [q]
  · rw [if_neg q]
    simp [q]
section
variable {P : Program} {w : World} {K : PySem.W.Frag} {mg : Str → Option Value} {base : Heap}
/-! ### parse_place -/
def rPP (C : Addr) (H : Hp) (Q : VK) (E : XK) : Except Nat (Nat × K86.Vls) → Prop
  | .error o => Rz C H E o
  | .ok r => ∀ (p : Addr) (H' : Hp), Same H H' → PlAt H' p r.1 r.2 → Q (.ref p) H'
def spPP (C : Addr) : Sp := fun vs H Q E => ∃ l : List Nat, vs = [.str (S l)] ∧ l.length ≤ 600 ∧ rPP C H Q E (K86.parse l)
/-- at the loop's head -/
def ivPP (l : List Nat) (n : Nat) (H : Hp) (R : Except Nat K86.Vls) (d : Addr) : Nat → L2.St → Hp → Prop := fun μ σ H' => H d = none ∧ ∃ (e f : Nat) (u : K86.Vls) (v : Option V), e ≤ l.length ∧ l.length - e < f ∧ u.length ≤ e ∧ σ = [some (.str (S l)), some (.int e), some (.int n), some (.ref d), v] ∧
  R = K86.pv f u e (l.drop e) ∧ Same H H' ∧ DctAt H' d u ∧ μ = f
theorem scPP : FnScope ["line", "end", "start", "values", "sign"] ["line"] (defScope (st 13)) := ⟨rfl, rfl, rfl, by decide +kernel, rfl, by decide +kernel, by decide +kernel⟩
theorem blank : Str.ofString " " = S [32] := by decide +kernel
theorem equals : Str.ofString "=" = S [61] := by decide +kernel
theorem ok_pp {f C fI : Addr} {fd fdI : FuncData} (F : Fun K "parse_place" "parse_place" (st 13) f fd) (B : Bl mg) (T : PErr K mg C fI) (F1 : FnOk P w K mg base L2.CX0 1 fI fdI ["self", "offset"] (spInit C)) (b1 : L2.Binds K fdI ["self", "offset"] [])
    (cNS : Cl P w K mg base L2.CX0 1 "need_string" ["value"] spNS) (cNE : Cl P w K mg base L2.CX0 1 "number_end" ["line", "start", "limit"] spNE) (cSg : Cl P w K mg base (L2.CX P w) 3 "need_sign" ["line", "offset", "signs"] (spSg K C))
    (cNF : Cl P w K mg base (L2.CX P w) 4 "numbers_from" ["line", "start", "separator"] (spNF C)) : FnOk P w K mg base (L2.CX P w) 6 f fd ["line"] (spPP C) := by
  refine F.okX scPP (fun vs H Q E h => ?_) (fun cdv A outer s H vs Q E hr h => ?_)
  · obtain ⟨l, rfl, _⟩ := h
    rfl
  · obtain ⟨l, rfl, hl, k⟩ := h
    have hu := hu_of hr
    refine ⟨_, (pss_cons (ps_expr (by exact (pe_cl cNS hr (by decide) rfl pass0 (by exact (pa_cons (pv 0) pa_nil)))))
      (pss_cons (ps_set (i := 1) scPP.nd rfl (Or.inl rfl) (by exact (pe_cl cNE hr (by decide) rfl pass0 (by exact (pa_cons (pv 0) (pa_cons pe_int (pa_cons (C8.pe_gc rfl B.mS) pa_nil)))))))
      (pss_cons (ps_if (pt_cmpR op_eq (pv 1) pe_int (nomark _)) (pss_one (ps_perr T F1 b1 (hr.mono (by decide)) rfl (takes_of rfl rfl rfl rfl) pe_int)) pss_nil)
      (pss_cons (ps_asg (pe_tup (pa_cons (pe_callTy call_int_str (by rfl) B.int (by decide +kernel) (pa_cons (pe_slice sl_str (pv 0) po_none (po_some (pv 1))) pa_nil)) (pa_cons pe_dnewK pa_nil))) (pg_tup rfl (pgs_cons (pg_name (i := 2) scPP.nd rfl (Or.inl rfl)) (pgs_cons (pg_name (i := 3) scPP.nd rfl (Or.inr rfl)) pgs_nil))))
      (pss_cons (ps_while (passes_of rfl) (pt_cmpR op_lt (pv 1) (pe_callB call_len_str (by rfl) B.len PySem.boot_len (pa_cons (pv 0) pa_nil)) (nomark _)) (pss_cons (ps_expr (by exact (pe_cl cSg hr (by decide) rfl (passes_call (takes_of rfl rfl rfl rfl) fun _ _ _ _ z => z) (by exact (pa_cons (pv 0) (pa_cons (pv 1) (pa_cons (pe_ifExp (pt_cmpR op_lt (pe_callB call_lenD (by rfl) B.len PySem.boot_len (pa_cons (pv 3) pa_nil)) (C8.pe_gc rfl B.mV) (nomark _)) pe_str pe_str) pa_nil)))))))
      (pss_cons (ps_expr (by exact (pe_cl cSg hr (by decide) rfl (passes_call (takes_of rfl rfl rfl rfl) fun _ _ _ _ z => z) (by exact (pa_cons (pv 0) (pa_cons (pe_op op_add (pv 1) pe_int) (pa_cons (pe_lc (own := [("sign", 4)]) (g := gName 4) rfl scPP.nd (pi_str (C8.pe_gc rfl B.alp)) (blkOk_by (own := [("sign", 4)]) (N := ["line", "end", "start", "values", "sign"]) (sc := defScope (st 13)) (by decide +kernel)) (fun _ _ _ _ _ => pg_name (i := 4) scPP.nd rfl (Or.inl rfl)) (fun _ _ _ _ _ => (pts_one (pt_cmp (pc_dnotin hu (pv 4) (pv 3))))) (fun _ _ _ _ _ => (pv 4))) pa_nil)))))))
      (pss_cons (ps_expr (by exact (pe_cl cSg hr (by decide) rfl (passes_call (takes_of rfl rfl rfl rfl) fun _ _ _ _ z => z) (by exact (pa_cons (pv 0) (pa_cons (pe_op op_add (pv 1) pe_int) (pa_cons pe_str pa_nil)))))))
      (pss_cons (ps_set (i := 4) scPP.nd rfl (Or.inl rfl) (pe_ix ix_str (pv 0) (pe_op op_add (pv 1) pe_int) (fun _ _ => rfl)))
      (pss_one (ps_asg (by exact (pe_cl cNF hr (by decide) rfl (passes_call (takes_of rfl rfl rfl rfl) fun _ _ _ _ z => z) (by exact (pa_cons (pv 0) (pa_cons (pe_op op_add (pv 1) pe_int) (pa_cons pe_str pa_nil)))))) (pg_tup rfl (pgs_cons (pg_sub (pv 3) (pv 4) (set_dict hu)) (pgs_cons (pg_name (i := 1) scPP.nd rfl (Or.inl rfl)) pgs_nil))))))))))
      (pss_one (ps_ret (pe_tup (pa_cons (pv 2) (pa_cons (pv 3) pa_nil)))))))))), ?_⟩
    -- need_string(line); end = number_end(line, 0, MAX_START)
    refine ⟨_, rfl, _, rfl, ?_⟩
    refine ⟨_, rfl, l, 0, K86.top, rfl, Nat.zero_le _, hl, ?_⟩
    rw [List.drop_zero, Nat.zero_add]
    unfold K86.parse at k
    have hle := K86.nk_le K86.top l []
    generalize hn : K86.nk K86.top [] l = n at k hle
    refine ⟨_, rfl, rfl, _, rfl, ?_⟩
    by_cases h0 : n = 0
    case pos =>
      subst h0
      rw [decide_eq_true (by rfl)]
      refine iteT (perr_ans fun d hd => ?_)
      rw [if_pos rfl] at k
      exact k.new d hd
    rw [decide_eq_false (fun z => by have := V.int.inj z; omega)]
    refine iteF ?_
    rw [if_neg h0] at k
    have hnum : K86.num K86.top (l.take n) = true := by
      have q := (K86.nk_iff K86.top l [] (.inl rfl) n hle (.inr (by omega))).mpr (by omega)
      rw [List.nil_append] at q
      exact q
    obtain ⟨q1, q2, _, _⟩ := K86.num_iff.mp hnum
    -- start, values = int(line[:end]), {}
    refine ⟨_, rfl, _, rfl, _, rfl, _, rfl, by rw [S_len]; exact line_le (by omega), _, ((K86.val (l.take n) : Nat) : Int), rfl, by rw [cut0]; exact int_of q2 q1 (by rw [List.length_take]; omega), by rw [cut0, S_len, List.length_take]; omega, ?_⟩
    refine fun d hd => ⟨line_le (show 2 ≤ 5000 by decide), fun q hq => ⟨q, _, rfl, SqT.of upd_same, rfl, _, _, rfl, _, _, rfl, rfl, ?_⟩⟩
    have hd1 : (upd (upd H d (.dK [])) q (.tup [.int ((K86.val (l.take n) : Nat) : Int), .ref d])) d = some (.dK []) := by
      rw [upd_ne (ne_of_none upd_same hq), upd_same]
    have sm1 : Same H (upd (upd H d (.dK [])) q (.tup [.int ((K86.val (l.take n) : Nat) : Int), .ref d])) := fun b o e => by
      have e1 : (upd H d (.dK [])) b = some o := by rw [upd_ne (ne_of_none e hd)]; exact e
      rw [upd_ne (ne_of_none e1 hq)]
      exact e1
    generalize upd (upd H d (.dK [])) q (.tup [.int ((K86.val (l.take n) : Nat) : Int), .ref d]) = H1 at hd1 sm1
    generalize hR : K86.pv (l.length + 1) [] n (l.drop n) = R at k
    -- the loop
    refine ⟨ivPP l (K86.val (l.take n)) H R d, ⟨_, hd, n, _, [], none, hle, by omega, Nat.zero_le _, rfl, hR.symm, sm1, ⟨[], hd1, .nil⟩, rfl⟩, ?_⟩
    rintro μ σ H2 ⟨_, e, f, u, v, he, hf, hul, rfl, hk, sm, hD, rfl⟩
    obtain ⟨f, rfl⟩ : ∃ g, μ = g + 1 := ⟨μ - 1, by omega⟩
    refine ⟨_, rfl, _, rfl, _, rfl, by rw [S_len]; exact line_le (by omega), _, _, rfl, rfl, _, rfl, ?_⟩
    rw [S_len]
    by_cases h1 : e < l.length
    case neg =>
      rw [decide_eq_false (by omega)]
      refine iteF ⟨_, rfl, _, rfl, line_le (show 2 ≤ 5000 by decide), fun p hp => ?_⟩
      have hR2 : R = .ok u := by
        rw [hk, List.drop_eq_nil_of_le (show l.length ≤ e by omega)]
        rfl
      rw [hR2] at k
      have sp : Same H2 (upd H2 p (.tup [.int ((K86.val (l.take n) : Nat) : Int), .ref d])) := fun b o e => by rw [upd_ne (ne_of_none e hp)]; exact e
      exact k p _ (sm.trans sp) ⟨d, upd_same, hD.same sp⟩
    rw [decide_eq_true (by omega)]
    refine iteT ⟨fun σ' H3 => ∃ m', m' < f + 1 ∧ ivPP l (K86.val (l.take n)) H R d m' σ' H3, fun _ _ e => e, ?_⟩
    obtain ⟨kvs, hD1, hD2⟩ := id hD
    have hcount : kvs.length = u.length := (Paired.length hD2).symm
    have hdrop : ∀ {i c : Nat}, l[i]? = some c → l.drop i = c :: l.drop (i + 1) := fun {i c} hc => by
      have hi := (List.getElem?_eq_some_iff.mp hc).1
      rw [List.drop_eq_getElem_cons hi]
      rw [List.getElem?_eq_getElem hi] at hc
      rw [Option.some.inj hc]
    have hnone : ∀ {i : Nat}, l[i]? = none → l.drop i = [] := fun {i} hc => List.drop_eq_nil_of_le (List.getElem?_eq_none_iff.mp hc)
    -- a failing answer
    have bad : ∀ {o : Nat}, R = .error o → Rz C H2 E o := fun {o} z => by
      rw [z] at k
      exact Rz.mono k sm
    -- need_sign(line, end, " " or "")
    obtain ⟨c, hc⟩ : ∃ c, l[e]? = some c := ⟨l[e], List.getElem?_eq_getElem h1⟩
    refine ⟨_, rfl, _, rfl, _, rfl, d, kvs, rfl, hD1, _, _, rfl, rfl, _, rfl, ?_⟩
    rw [hdrop hc] at hk
    unfold K86.pv at hk
    by_cases h8 : u.length < 8
    case neg =>
      rw [decide_eq_false (by omega)]
      refine iteF ⟨l, e, _, fun _ => false, rfl, hl, .inl ⟨[], congrArg V.str empt, fun _ => rfl⟩, fun _ _ z => (Bool.false_ne_true z).elim, fun _ => bad ?_⟩
      rw [hk, if_pos (.inr (by omega))]
    rw [decide_eq_true (by omega)]
    refine iteT ⟨l, e, _, fun x => decide (x ∈ [32]), rfl, hl, .inl ⟨[32], congrArg V.str blank, fun _ => rfl⟩, fun c' z h => ?_, fun z => bad ?_⟩
    rotate_left
    · have h := z c hc
      have h : c ≠ 32 := fun q => by rw [q] at h; exact absurd h (by decide)
      rw [hk, if_pos (.inl h)]
    rw [hc] at z
    cases z
    have h32 : c = 32 := by simpa using of_decide_eq_true h
    rw [if_neg (by omega)] at hk
    -- need_sign(line, end + 1, [..])
    have hdk : ∀ (D : Addr) (o : HO), H2 D = none → (upd H2 D o) d = some (.dK kvs) := fun D o hD => by
      rw [upd_ne (ne_of_none hD1 hD)]
      exact hD1
    refine ⟨_, rfl, _, rfl, _, _, rfl, rfl, _, rfl, fun D hDn => lc_it walk_str (fun i H' => H' = upd H2 D (.lst ((freeA u i).map fun c => V.str (S [c])))) rfl (fun _ _ _ _ => trivial) (fun i x Hc Hd hi e0 y => ?_) (fun Hd e0 => ?_)⟩
    · obtain ⟨rfl, c2, hc2, rfl⟩ := y
      subst e0
      have hc3 : alph[i]? = some c2 := by
        rw [alph_eq] at hc2
        simpa using hc2
      refine ⟨rfl, _, rfl, _, rfl, d, _, rfl, DGet.k (k := Sum.inr (S [c2])) (hdk _ _ hDn), _, rfl, ?_⟩
      rw [ents_get c2 hD2]
      cases q : K86.usd u c2 with
      | true =>
        refine iteF ?_
        rw [freeA_next hc3, if_pos q]
      | false =>
        refine iteT ⟨_, rfl, _, upd_same, ?_, ?_⟩
        · rw [List.length_map]
          refine small1000 (Nat.le_trans (List.length_filter_le _ _) ?_)
          rw [List.length_take, show alph.length = 26 from by decide]
          omega
        · rw [freeA_next hc3, if_neg (by rw [q]; simp), upd_upd, List.map_append]
          rfl
    subst e0
    have hsz : (Str.ofString "abcdefghijklmnopqrstuvwxyz").cps.size = 26 := by decide +kernel
    rw [hsz]
    have smD : Same H2 (upd H2 D (.lst ((freeA u 26).map fun c => V.str (S [c])))) := fun b o e => by rw [upd_ne (ne_of_none e hDn)]; exact e
    have hld : (upd H2 D (.lst ((freeA u 26).map fun c => V.str (S [c])))) D = some (.lst ((freeA u 26).map fun c => V.str (S [c]))) := upd_same
    have hd3 := hdk D (.lst ((freeA u 26).map fun c => V.str (S [c]))) hDn
    generalize upd H2 D (.lst ((freeA u 26).map fun c => V.str (S [c]))) = H3 at smD hld hd3
    have sm3 : Same H H3 := sm.trans smD
    have bad3 : ∀ {o : Nat}, R = .error o → Rz C H3 E o := fun z => (bad z).mono smD
    refine ⟨l, e + 1, .ref D, K86.freeL u, rfl, hl, .inr ⟨D, freeA u 26, rfl, SqL.of hld, fun c => (freeA_in u c).symm⟩, fun a ha hfa => ?_, fun z => bad3 ?_⟩
    rotate_left
    · rw [hk]
      cases ha : l[e + 1]? with
      | none => rw [hnone ha]
      | some a =>
        rw [hdrop ha]
        show (if K86.freeL u a = false then _ else _) = _
        rw [if_pos (z a ha)]
    rw [hdrop ha] at hk
    have hk : R = (if K86.freeL u a = false then .error (e + 1) else match l.drop (e + 1 + 1) with
          | [] => .error (e + 2)
          | x :: r3 =>
            if x ≠ 61 then .error (e + 2)
            else match K86.nums (r3.length + 1) [] (e + 3) r3 with
              | .error o => .error o
              | .ok (vs, o) => K86.pv f (u ++ [(a, vs)]) o (r3.drop (o - (e + 3)))) := hk
    rw [if_neg (by rw [hfa]; simp)] at hk
    -- need_sign(line, end + 2, "=")
    refine ⟨_, rfl, _, rfl, _, _, rfl, rfl, ?_⟩
    refine ⟨l, e + 2, _, fun x => decide (x ∈ [61]), rfl, hl, .inl ⟨[61], congrArg V.str equals, fun _ => rfl⟩, fun x hx h => ?_, fun z => bad3 ?_⟩
    rotate_left
    · rw [hk]
      cases hx : l[e + 2]? with
      | none => rw [show e + 1 + 1 = e + 2 from rfl, hnone hx]
      | some x =>
        rw [show e + 1 + 1 = e + 2 from rfl, hdrop hx]
        have h := z x hx
        have h : x ≠ 61 := fun q => by rw [q] at h; exact absurd h (by decide)
        show (if x ≠ 61 then _ else _) = _
        rw [if_pos h]
    have h61 : x = 61 := by simpa using of_decide_eq_true h
    rw [show e + 1 + 1 = e + 2 from rfl, hdrop hx] at hk
    have hk : R = (if x ≠ 61 then .error (e + 2)
            else match K86.nums ((l.drop (e + 3)).length + 1) [] (e + 3) (l.drop (e + 3)) with
              | .error o => .error o
              | .ok (vs, o) => K86.pv f (u ++ [(a, vs)]) o ((l.drop (e + 3)).drop (o - (e + 3)))) := hk
    rw [if_neg (by omega)] at hk
    have hlt : e + 2 < l.length := (List.getElem?_eq_some_iff.mp hx).1
    -- sign = line[end + 1]; values[sign], end = numbers_from(line, end + 3, ",")
    refine ⟨_, rfl, _, rfl, _, _, rfl, rfl, _, _, a, rfl, rfl, by rw [S_len]; exact line_le (by omega), atI_nat (j := e + 1) ha, ?_⟩
    refine ⟨_, rfl, _, rfl, _, _, rfl, rfl, l, e + 3, rfl, by omega, hl, ?_⟩
    cases hN : K86.nums ((l.drop (e + 3)).length + 1) [] (e + 3) (l.drop (e + 3)) with
    | error o =>
      rw [hN] at hk
      exact bad3 hk
    | ok r =>
      obtain ⟨vs, o⟩ := r
      rw [hN] at hk
      have hk : R = K86.pv f (u ++ [(a, vs)]) o ((l.drop (e + 3)).drop (o - (e + 3))) := hk
      have hb := K86.nums_le _ _ _ _ _ _ hN
      rw [List.length_drop] at hb
      intro p t H4 sm4 ht hp
      have hd4 : H4 d = some (.dK kvs) := sm4 _ _ hd3
      have ents4 : Paired (EntAt H4) u kvs := ents_mono (fun b xs z => sm4 _ _ (smD _ _ z)) hD2
      have hfr : K86.usd u a = false := by
        unfold K86.freeL at hfa
        simp only [Bool.and_eq_true, Bool.not_eq_true'] at hfa
        exact hfa.2
      refine ⟨p, _, rfl, SqT.of hp, rfl, _, _, rfl, _, rfl, _, rfl, d, _, rfl, DPut.k (k := Sum.inr (S [a])) hd4 (small1000 (by omega)), _, _, rfl, rfl, ?_⟩
      refine ⟨f, Nat.lt_succ_self _, hd, o, f, u ++ [(a, vs)], some (.str (S [a])), by omega, by omega, ?_, rfl, ?_, ?_, DctAt.put hd4 ents4 hfr ht, rfl⟩
      · rw [List.length_append, List.length_cons, List.length_nil]
        omega
      · rw [hk, List.drop_drop, show e + 3 + (o - (e + 3)) = o from by omega]
      · intro b ob z
        rw [upd_ne (ne_of_none z hd)]
        exact sm4 _ _ (sm3 _ _ z)
end
end W86

-- W86f
set_option Elab.async false
set_option linter.all false
set_option maxRecDepth 100000
set_option maxHeartbeats 4000000
namespace W86
open PySem L2 PySem.Spec PyProof.Rows

/-! ### texts of signs below 128, lists of texts -/
def Asc (l : List Nat) : Prop := ∀ c ∈ l, c < 128
theorem Asc.take {l : List Nat} (h : Asc l) (n : Nat) : Asc (l.take n) := fun c hc => h c (List.mem_of_mem_take hc)
theorem Asc.drop {l : List Nat} (h : Asc l) (n : Nat) : Asc (l.drop n) := fun c hc => h c (List.mem_of_mem_drop hc)
abbrev txs (ps : List (List Nat)) : List V := ps.map fun p => V.str (S p)
abbrev dS (ps : List (List Nat)) : List PyData := ps.map fun p => PyData.str (S p)
theorem dp_strs {K : PySem.W.Frag} {H : Hp} : ∀ ps : List (List Nat), DpAll K H (txs ps) (dS ps)
  | [] => .nil
  | p :: ps => .cons (.str _) (dp_strs ps)
theorem dp_list {K : PySem.W.Frag} {H : Hp} {a : Addr} {ps : List (List Nat)} (h : H a = some (.lst (txs ps))) : Dp K H (.ref a) (.list (dS ps)) := .lst (SqL.of h) (dp_strs ps)
theorem canLay_strs : ∀ ps : List (List Nat), (∀ p ∈ ps, Asc p) → PyData.canLayAll0 (dS ps) = true
  | [], _ => rfl
  | p :: ps, h => by
    have e1 : PyData.strOk (S p) = true := by
      unfold PyData.strOk
      rw [Array.all_eq_true']
      intro c hc
      have := h p (by simp) c (by simpa using hc)
      simp only [decide_eq_true_eq]
      omega
    show (PyData.canLay0 (.str (S p)) && PyData.canLayAll0 (dS ps)) = true
    rw [canLay_strs ps fun q hq => h q (List.mem_cons_of_mem _ hq), Bool.and_true]
    simpa [PyData.canLay0] using e1
theorem depth_strs : ∀ ps : List (List Nat), PyData.depthAll (dS ps) = 0
  | [] => rfl
  | p :: ps => by
    show max (PyData.depth (.str (S p))) (PyData.depthAll (dS ps)) = 0
    rw [depth_strs ps]
    rfl
theorem shaped_strs {ps : List (List Nat)} (h : ∀ p ∈ ps, Asc p) : SeqAt.shaped (.list (dS ps)) = true := by
  unfold SeqAt.shaped
  have e1 : PyData.canLay0 (.list (dS ps)) = true := by
    have := canLay_strs ps h
    simpa [PyData.canLay0] using this
  have e2 : PyData.depth (.list (dS ps)) = 1 := by
    show PyData.depthAll (dS ps) + 1 = 1
    rw [depth_strs]
  rw [e1, e2]
  rfl
theorem shaped_nil : SeqAt.shaped (.list []) = true := by decide
theorem eqv_nil (ps : List (List Nat)) : PyData.eqv (.list (dS ps)) (.list []) = decide (ps = []) := by
  cases ps with
  | nil => rfl
  | cons p ps => rfl
theorem strs_len (ps : List (List Nat)) : (txs ps).length = ps.length := List.length_map _
/-! ### split and join -/
theorem spl_spc (c : Nat) : ∀ (l acc : List Nat), TL.spl [c] 0 acc l = (acc ++ (K86.spc c l).headD []) :: (K86.spc c l).tail
  | [], acc => by
    rw [TL.spl_nil]
    show _ = (acc ++ []) :: []
    rw [List.append_nil]
  | x :: l, acc => by
    have hp : TL.pre [c] (x :: l) = decide (x = c) := by
      show (([x] : List Nat) == [c]) = _
      by_cases h : x = c
      · rw [h]; simp
      · rw [decide_eq_false h]
        simpa using h
    by_cases h : x = c
    · rw [TL.spl_hit (by rw [hp, decide_eq_true h]), show ([c] : List Nat).length - 1 = 0 from rfl, spl_spc c l []]
      have e : K86.spc c (x :: l) = [] :: K86.spc c l := by
        show (if x = c then _ else _) = _
        rw [if_pos h]
      rw [e]
      cases q : K86.spc c l with
      | nil => exact absurd q (K86.spc_ne c l)
      | cons a r =>
        show acc :: ([] ++ a) :: r = (acc ++ []) :: a :: r
        rw [List.nil_append, List.append_nil]
    · rw [TL.spl_miss (by rw [hp, decide_eq_false h]), spl_spc c l (acc ++ [x])]
      have e : K86.spc c (x :: l) = (x :: (K86.spc c l).headD []) :: (K86.spc c l).tail := by
        show (if x = c then _ else _) = _
        rw [if_neg h]
      rw [e]
      show (acc ++ [x] ++ _) :: _ = (acc ++ (x :: _)) :: _
      rw [List.append_assoc]
      rfl
theorem split_eq {c : Nat} (hc : c < 256) (l : List Nat) : (Txt.split (S l) (S [c])).map V.str = txs (K86.spc c l) := by
  have h := TL.split_spl (S l) (S [c]) (by simp) (TL.kind_ok (by simpa using hc))
  have e : TL.spl (TL.tl (S [c])) 0 [] (TL.tl (S l)) = K86.spc c l := by
    show TL.spl [c] 0 [] l = _
    rw [spl_spc, List.nil_append]
    cases q : K86.spc c l with
    | nil => exact absurd q (K86.spc_ne c l)
    | cons a r => rfl
  rw [e] at h
  rw [← h]
  show _ = List.map (fun p => V.str (S p)) (List.map TL.tl (Txt.split (S l) (S [c])))
  rw [List.map_map]
  refine List.map_congr_left fun x _ => ?_
  show V.str x = V.str (S x.cps.toList)
  rw [S_tl]
theorem joinL_joc (c : Nat) : ∀ ps : List (List Nat), TL.joinL [c] ps = K86.joc c ps
  | [] => rfl
  | [_] => rfl
  | p :: q :: r => by
    show p ++ ([c] ++ TL.joinL [c] (q :: r)) = p ++ c :: K86.joc c (q :: r)
    rw [joinL_joc c (q :: r)]
    rfl
theorem join_eq (c : Nat) (ps : List (List Nat)) : Txt.join (S [c]) (ps.map S) = S (K86.joc c ps) := by
  refine TL.ext_tl ?_
  rw [TL.join_eq, TL.tl_join]
  show TL.joinL [c] ((ps.map S).map TL.tl) = K86.joc c ps
  rw [SX.map_S_tl, joinL_joc]
theorem spc_asc {c : Nat} {l : List Nat} (h : Asc l) : ∀ p ∈ K86.spc c l, Asc p := by
  induction l with
  | nil =>
    intro p hp
    have : p = [] := by simpa [K86.spc] using hp
    rw [this]
    intro x hx
    cases hx
  | cons x l ih =>
    intro p hp
    have ih := ih fun y hy => h y (List.mem_cons_of_mem _ hy)
    have hp : p ∈ (if x = c then [] :: K86.spc c l else (x :: (K86.spc c l).headD []) :: (K86.spc c l).tail) := hp
    split at hp
    · rcases List.mem_cons.mp hp with e | e
      · rw [e]
        intro y hy
        cases hy
      · exact ih p e
    · cases q : K86.spc c l with
      | nil => exact absurd q (K86.spc_ne c l)
      | cons a r =>
        rw [q] at hp ih
        rcases List.mem_cons.mp hp with e | e
        · rw [e]
          intro y hy
          rcases List.mem_cons.mp hy with e2 | e2
          · rw [e2]
            exact h x (by simp)
          · exact ih a (by simp) y e2
        · exact ih p (List.mem_cons_of_mem _ e)
/-- the parts are no longer than the whole, nor more -/
theorem spc_len (c : Nat) : ∀ l : List Nat, (K86.spc c l).length ≤ l.length + 1 ∧ ∀ p ∈ K86.spc c l, p.length ≤ l.length
  | [] => ⟨Nat.le_refl _, fun p hp => by
    have : p = [] := by simpa [K86.spc] using hp
    rw [this]
    exact Nat.le_refl _⟩
  | x :: l => by
    obtain ⟨h1, h2⟩ := spc_len c l
    by_cases h : x = c
    · have e : K86.spc c (x :: l) = [] :: K86.spc c l := by
        show (if x = c then _ else _) = _
        rw [if_pos h]
      rw [e]
      refine ⟨by simp only [List.length_cons]; omega, fun p hp => ?_⟩
      rcases List.mem_cons.mp hp with e | e
      · rw [e]
        exact Nat.zero_le _
      · have := h2 p e
        rw [List.length_cons]
        omega
    · have e : K86.spc c (x :: l) = (x :: (K86.spc c l).headD []) :: (K86.spc c l).tail := by
        show (if x = c then _ else _) = _
        rw [if_neg h]
      rw [e]
      cases q : K86.spc c l with
      | nil => exact absurd q (K86.spc_ne c l)
      | cons a r =>
        rw [q] at h1 h2
        refine ⟨by simp only [List.length_cons, List.tail_cons] at h1 ⊢; omega, fun p hp => ?_⟩
        rcases List.mem_cons.mp hp with e | e
        · rw [e]
          have := h2 a (by simp)
          show a.length + 1 ≤ l.length + 1
          omega
        · have := h2 p (List.mem_cons_of_mem _ e)
          rw [List.length_cons]
          omega

section
variable {P : Program} {w : World} {K : PySem.W.Frag} {mg : Str → Option Value} {base : Heap}
/-! ### _law_is_number -/
def spIN : Sp := fun vs H Q _ => ∃ (l : List Nat) (m : Nat), vs = [.str (S l), .int m] ∧ m ≤ 10 ^ 18 ∧ l.length ≤ 600 ∧ Asc l ∧ ∀ H', Same H H' → Q (.bl (K86.num m l)) H'
theorem scIN : FnScope ["_law_string", "_law_most", "_law_sign"] ["_law_string", "_law_most"] (defScope (st 20)) := ⟨rfl, rfl, rfl, by decide +kernel, rfl, by decide +kernel, by decide +kernel⟩
/-- the signs that are no figures -/
def odd (l : List Nat) (i : Nat) : List Nat := (l.take i).filter fun c => !K86.dg c
theorem odd_next {l : List Nat} {i c : Nat} (h : l[i]? = some c) : odd l (i + 1) = if K86.dg c = true then odd l i else odd l i ++ [c] := by
  unfold odd
  rw [List.take_add_one, h, List.filter_append]
  by_cases q : K86.dg c = true
  · rw [if_pos q]
    simp [q]
  · rw [if_neg q]
    simp [q]
theorem odd_nil (l : List Nat) : odd l l.length = [] ↔ ∀ c ∈ l, K86.dg c = true := by
  unfold odd
  rw [List.take_length, List.filter_eq_nil_iff]
  constructor
  · intro h c hc
    have := h c hc
    simpa using this
  · intro h c hc
    rw [h c hc]
    decide
abbrev one (cs : List Nat) : List (List Nat) := cs.map fun c => [c]
theorem one_app (a : List Nat) (c : Nat) : txs (one (a ++ [c])) = txs (one a) ++ [V.str (S [c])] := by
  rw [txs, one, List.map_append, List.map_append]
  rfl
theorem ok_in {f : Addr} {fd : FuncData} (F : Fun K "_law_is_number" "_law_is_number" (st 20) f fd) (B : Bl mg) : FnOk P w K mg base L2.CX0 1 f fd ["_law_string", "_law_most"] spIN := by
  refine F.ok scIN (fun vs H Q E h => ?_) (fun cdv A outer s H vs Q E hr h => ?_)
  · obtain ⟨l, m, rfl, _⟩ := h
    rfl
  · obtain ⟨l, m, rfl, hm, hl, hA, k⟩ := h
    refine ⟨_, (pss_cons (ps_if (PW.pt (pw_or (pt_cmpR op_eq (pv 0) pe_str (nomark _)) (pw_or1 (pt_cmpR (op_neD hr.units) (pe_lc (own := [("_law_sign", 2)]) (g := gName 2) rfl scIN.nd (pi_str (pv 0)) (blkOk_by (own := [("_law_sign", 2)]) (N := ["_law_string", "_law_most", "_law_sign"]) (sc := defScope (st 20)) (by decide +kernel)) (fun _ _ _ _ _ => pg_name (i := 2) scIN.nd rfl (Or.inl rfl)) (fun _ _ _ _ _ => (pts_one (pt_cmpR op_notIn_sign (pv 2) pe_str (by rfl)))) (fun _ _ _ _ _ => (pv 2))) (pe_lst pa_nil) (nomark _))))) (pss_one (ps_ret pe_bl)) pss_nil)
      (pss_one (ps_ret (pe_and (pe_or (pe_cmpR op_ne (pe_ix ix_str (pv 0) pe_int (fun _ _ => rfl)) pe_str (nomark _)) (pe_one (pe_cmpR op_eq (pv 0) pe_str (nomark _)))) (pe_and (pe_cmpR op_lt (pe_callB call_len_str (by rfl) B.len PySem.boot_len (pa_cons (pv 0) pa_nil)) pe_int (nomark _)) (pe_one (pe_cmpR op_le (pe_callTy call_int_str (by rfl) B.int (by decide +kernel) (pa_cons (pv 0) pa_nil)) (pv 1) (nomark _)))))))), ?_⟩
    have no : K86.num m l = false → ∀ H', Same H H' → Q (.bl false) H' := fun z H' s => by
      rw [← z]
      exact k H' s
    -- if string == '' or [..] != []
    refine ⟨_, rfl, rfl, _, rfl, ?_⟩
    rw [empt, V_str]
    by_cases h0 : l = []
    case pos =>
      rw [decide_eq_true h0]
      refine iteT (iteT (no ?_ _ (Same.refl _)))
      rw [h0]
      rfl
    rw [decide_eq_false h0]
    refine iteF ⟨_, rfl, _, rfl, fun D hD => lc_it walk_str (fun i H' => H' = upd H D (.lst (txs (one (odd l i))))) rfl (fun _ _ _ _ => trivial) (fun i x Hc Hd hi e0 y => ?_) (fun Hd e0 => ?_)⟩
    · obtain ⟨rfl, c, hc, rfl⟩ := y
      subst e0
      have hc3 : l[i]? = some c := by simpa using hc
      refine ⟨rfl, _, rfl, c, _, rfl, rfl, _, rfl, ?_⟩
      rw [fig_eq, show (S figs).cps.toList = figs from rfl, fig_in]
      cases q : K86.dg c with
      | true =>
        refine iteF ?_
        rw [odd_next hc3, if_pos q]
      | false =>
        refine iteT ⟨_, rfl, _, upd_same, ?_, ?_⟩
        · rw [strs_len, List.length_map]
          refine small1000 (Nat.le_trans (List.length_filter_le _ _) ?_)
          rw [List.length_take]
          omega
        · rw [odd_next hc3, if_neg (by rw [q]; simp), upd_upd, one_app]
    have hsz : (S l).cps.size = l.length := by simp [S]
    rw [hsz] at e0
    subst e0
    refine ⟨line_le (by decide), fun D2 hD2 => ?_⟩
    have hl1 : (upd (upd H D (.lst (txs (one (odd l l.length))))) D2 (.lst [])) D = some (.lst (txs (one (odd l l.length)))) := by
      rw [upd_ne (ne_of_none upd_same hD2), upd_same]
    have sm : Same H (upd (upd H D (.lst (txs (one (odd l l.length))))) D2 (.lst [])) := fun b o e => by
      have e1 : (upd H D (.lst (txs (one (odd l l.length))))) b = some o := by rw [upd_ne (ne_of_none e hD)]; exact e
      rw [upd_ne (ne_of_none e1 hD2)]
      exact e1
    have hl2 : (upd (upd H D (.lst (txs (one (odd l l.length))))) D2 (.lst [])) D2 = some (.lst (txs [])) := upd_same
    generalize upd (upd H D (.lst (txs (one (odd l l.length))))) D2 (.lst []) = H1 at hl1 sm hl2
    refine ⟨_, _, dp_list hl1, dp_list hl2, shaped_strs fun p hp c hc => ?_, shaped_nil, _, rfl, ?_⟩
    · obtain ⟨x, hx, rfl⟩ := List.mem_map.mp hp
      rw [List.mem_singleton.mp hc]
      exact hA x (List.mem_of_mem_take (List.mem_filter.mp hx).1)
    rw [show dS [] = [] from rfl, eqv_nil]
    by_cases h1 : odd l l.length = []
    case neg =>
      rw [decide_eq_false (fun z => h1 (by simpa [one] using z))]
      refine iteT (no ?_ _ sm)
      cases q : K86.num m l with
      | false => rfl
      | true => exact absurd ((odd_nil l).mpr (K86.num_iff.mp q).2.1) h1
    rw [decide_eq_true (show one (odd l l.length) = [] by rw [h1]; rfl)]
    refine iteF ?_
    have hd := (odd_nil l).mp h1
    -- the return
    obtain ⟨c, r, rfl⟩ : ∃ c r, l = c :: r := by
      cases l with
      | nil => exact absurd rfl h0
      | cons c r => exact ⟨c, r, rfl⟩
    have hval : K86.num m (c :: r) = ((!decide (c = 48) || decide (c :: r = [48])) && decide (K86.val (c :: r) ≤ m)) := by
      have e : (c :: r).all K86.dg = true := List.all_eq_true.mpr hd
      unfold K86.num
      rw [e]
      simp
    refine ⟨_, rfl, _, _, c, rfl, rfl, by rw [S_len]; exact line_le (by omega), atI_nat (j := 0) rfl, rfl, _, rfl, ?_⟩
    rw [show (⟨#[c]⟩ : Str) = S [c] from rfl, show Str.ofString "0" = S [48] from by decide +kernel, V_str]
    have last : (!decide (c = 48) || decide (c :: r = [48])) = true → tAndV (tOp (rI0 fun i j => V.bl (decide (i < j))) (tCB (fun xs H Q => ∃ z, xs = [V.str z] ∧ z.length ≤ sizeLine ∧ Q (V.int z.length) H) (tCons (tVar 0) tNil)) (tC (V.int 30)))
        (tOp (rI0 fun i j => V.bl (decide (i ≤ j))) (tCB (fun xs H Q => ∃ a n, xs = [V.str a] ∧ PySem.intText? a = some n ∧ a.length ≤ 640 ∧ Q (V.int n) H) (tCons (tVar 0) tNil)) (tVar 1)) [some (.str (S (c :: r))), some (.int m), none] H1 Q := fun z => by
      refine ⟨_, rfl, _, rfl, by rw [S_len]; exact line_le (by omega), _, _, rfl, rfl, _, rfl, ?_⟩
      rw [S_len]
      by_cases h30 : (c :: r).length < 30
      · rw [decide_eq_true (by omega)]
        refine iteT ⟨_, rfl, _, ((K86.val (c :: r) : Nat) : Int), rfl, int_of hd (by simp) (by omega), by rw [S_len]; omega, _, rfl, _, _, rfl, rfl, ?_⟩
        have e : decide (((K86.val (c :: r) : Nat) : Int) ≤ (m : Int)) = K86.num m (c :: r) := by
          rw [hval, z, Bool.true_and]
          exact decide_eq_decide.mpr (by omega)
        show Q (.bl (decide (((K86.val (c :: r) : Nat) : Int) ≤ (m : Int)))) H1
        rw [e]
        exact k _ sm
      · rw [decide_eq_false (by omega)]
        refine iteF (no ?_ _ sm)
        cases q : K86.num m (c :: r) with
        | false => rfl
        | true =>
          have := K86.num_short hm q
          omega
    by_cases h48 : c = 48
    · rw [decide_eq_true (by rw [h48])]
      refine iteF ⟨_, rfl, rfl, ?_⟩
      rw [V_str]
      by_cases h2 : c :: r = [48]
      · refine ⟨true, by rw [decide_eq_true h2], iteT ?_⟩
        exact last (by rw [decide_eq_true h2, Bool.or_true])
      · refine ⟨false, by rw [decide_eq_false h2], iteF ?_⟩
        refine no ?_ _ sm
        rw [hval, decide_eq_true h48, decide_eq_false h2]
        rfl
    · rw [decide_eq_false (fun z => h48 (by cases z; rfl))]
      refine iteT ⟨true, rfl, iteT ?_⟩
      exact last (by rw [decide_eq_false h48]; rfl)
end
end W86

-- W86g
set_option Elab.async false
set_option linter.all false
set_option maxRecDepth 100000
set_option maxHeartbeats 4000000
namespace W86
open PySem L2 PySem.Spec PyProof.Rows

theorem V_emp (l : List Nat) : decide (V.str (S l) = V.str (Str.ofString "")) = decide (l = []) := by rw [empt, V_str]
/-- the texts that are no numbers -/
def bad (ps : List (List Nat)) (i : Nat) : List (List Nat) := (ps.take i).filter fun p => !K86.num K86.big p
theorem bad_next {ps : List (List Nat)} {i : Nat} {p : List Nat} (h : ps[i]? = some p) : bad ps (i + 1) = if K86.num K86.big p = true then bad ps i else bad ps i ++ [p] := by
  unfold bad
  rw [List.take_add_one, h, List.filter_append]
  by_cases q : K86.num K86.big p = true
  · rw [if_pos q]
    simp [q]
  · rw [if_neg q]
    simp [q]
theorem bad_nil (ps : List (List Nat)) : decide (bad ps ps.length = []) = ps.all (K86.num K86.big) := by
  unfold bad
  rw [List.take_length]
  cases h : ps.all (K86.num K86.big) with
  | true =>
    refine decide_eq_true (List.filter_eq_nil_iff.mpr fun p hp => ?_)
    have := List.all_eq_true.mp h p hp
    rw [this]
    decide
  | false =>
    refine decide_eq_false fun z => ?_
    have : ps.all (K86.num K86.big) = true := List.all_eq_true.mpr fun p hp => by
      have := List.filter_eq_nil_iff.mp z p hp
      simpa using this
    rw [h] at this
    cases this
theorem bad_mem {ps : List (List Nat)} {i : Nat} {p : List Nat} (h : p ∈ bad ps i) : p ∈ ps := List.mem_of_mem_take (List.mem_filter.mp h).1
theorem bad_len (ps : List (List Nat)) (i : Nat) : (bad ps i).length ≤ ps.length := Nat.le_trans (List.length_filter_le _ _) (by rw [List.length_take]; omega)
theorem txs_get {ps : List (List Nat)} {i : Nat} {x : V} (h : (txs ps)[i]? = some x) : ∃ p, ps[i]? = some p ∧ x = V.str (S p) := by
  rw [List.getElem?_map] at h
  cases e : ps[i]? with
  | none => rw [e] at h; cases h
  | some p =>
    rw [e] at h
    exact ⟨p, rfl, (Option.some.inj h).symm⟩
theorem big_le : K86.big ≤ 10 ^ 18 := by decide
/-- a new list of the parts -/
theorem same_new {H : Hp} {a : Addr} {o : HO} (h : H a = none) : Same H (upd H a o) := fun b u e => by
  rw [upd_ne (ne_of_none e h)]
  exact e
theorem isVal_short {u : K86.Vls} {w : List Nat} (h : w.length < 3) : K86.isVal u w = false := by
  match w, h with
  | [], _ => rfl
  | [_], _ => rfl
  | [a, e], _ => simp [K86.isVal]
theorem isVal_long {u : K86.Vls} {a e : Nat} {t : List Nat} (h : ¬ (a :: e :: t).length < 3) : K86.isVal u (a :: e :: t) = (K86.freeL u a && decide (e = 61) && K86.numsOk t) := by
  cases t with
  | nil => simp at h
  | cons x t => simp [K86.isVal]
theorem alpha_in {a : Nat} : (!decide (a ∈ (Str.ofString "abcdefghijklmnopqrstuvwxyz").cps.toList)) = !K86.letr a := by
  rw [alph_eq, show (S alph).cps.toList = alph from rfl, alph_in]

section
variable {P : Program} {w : World} {K : PySem.W.Frag} {mg : Str → Option Value} {base : Heap}
/-! ### _law_is_value -/
def spIV : Sp := fun vs H Q _ => ∃ (l : List Nat) (d : Addr) (u : K86.Vls), vs = [.str (S l), .ref d] ∧ l.length ≤ 600 ∧ Asc l ∧ DctAt H d u ∧ ∀ H', Same H H' → Q (.bl (K86.isVal u l)) H'
theorem scIV : FnScope ["_law_part", "_law_used", "_law_one"] ["_law_part", "_law_used"] (defScope (st 25)) := ⟨rfl, rfl, rfl, by decide +kernel, rfl, by decide +kernel, by decide +kernel⟩
theorem ok_iv {f : Addr} {fd : FuncData} (F : Fun K "_law_is_value" "_law_is_value" (st 25) f fd) (B : Bl mg) (cIN : Cl P w K mg base L2.CX0 1 "_law_is_number" ["_law_string", "_law_most"] spIN) : FnOk P w K mg base L2.CX0 3 f fd ["_law_part", "_law_used"] spIV := by
  refine F.ok scIV (fun vs H Q E h => ?_) (fun cdv A outer s H vs Q E hr h => ?_)
  · obtain ⟨l, d, u, rfl, _⟩ := h
    rfl
  · obtain ⟨l, d, u, rfl, hl, hA, hD, k⟩ := h
    have hu := hu_of hr
    refine ⟨_, (pss_cons (ps_if (PW.pt (pw_or (pt_cmpR op_lt (pe_callB call_len_str (by rfl) B.len PySem.boot_len (pa_cons (pv 0) pa_nil)) pe_int (nomark _)) (pw_or (pt_cmpR op_notIn_sign (pe_ix ix_str (pv 0) pe_int (fun _ _ => rfl)) pe_str (by rfl)) (pw_or (pt_cmp (pc_din hu (pe_ix ix_str (pv 0) pe_int (fun _ _ => rfl)) (pv 1))) (pw_or1 (pt_cmpR op_ne (pe_ix ix_str (pv 0) pe_int (fun _ _ => rfl)) pe_str (nomark _))))))) (pss_one (ps_ret pe_bl)) pss_nil)
      (pss_one (ps_ret (pe_cmpR (op_eqD hr.units) (pe_lc (own := [("_law_one", 2)]) (g := gName 2) rfl scIV.nd (pi_list (pe_split (pe_slice sl_str (pv 0) (po_some pe_int) po_none) pe_str)) (blkOk_by (own := [("_law_one", 2)]) (N := ["_law_part", "_law_used", "_law_one"]) (sc := defScope (st 25)) (by decide +kernel)) (fun _ _ _ _ _ => pg_name (i := 2) scIV.nd rfl (Or.inl rfl)) (fun _ _ _ _ _ => (pts_one (pt_not (pt_val (by exact (pe_cl cIN hr (by decide) rfl pass0 (by exact (pa_cons (pv 2) (pa_cons pe_int pa_nil))))))))) (fun _ _ _ _ _ => (pv 2))) (pe_lst pa_nil) (nomark _))))), ?_⟩
    obtain ⟨kvs, hD1, hD2⟩ := id hD
    have no : K86.isVal u l = false → Q (.bl false) H := fun z => by
      rw [← z]
      exact k H (Same.refl _)
    -- len(part) < 3
    refine ⟨_, rfl, _, rfl, by rw [S_len]; exact line_le (by omega), _, _, rfl, rfl, _, rfl, ?_⟩
    rw [S_len]
    by_cases h3 : l.length < 3
    case pos =>
      rw [decide_eq_true (by omega)]
      exact iteT (iteT (no (isVal_short h3)))
    rw [decide_eq_false (by omega)]
    refine iteF ?_
    obtain ⟨a, e, t, rfl⟩ : ∃ a e t, l = a :: e :: t := by
      match l, h3 with
      | [], h => exact absurd (by decide) h
      | [_], h => exact absurd (by show 1 < 3; decide) h
      | a :: e :: t, _ => exact ⟨a, e, t, rfl⟩
    rw [isVal_long h3] at k no
    have hz : (S (a :: e :: t)).length ≤ sizeLine := by rw [S_len]; exact line_le (by omega)
    -- part[0] not in ..
    refine ⟨_, rfl, _, _, a, rfl, rfl, hz, atI_nat (j := 0) rfl, a, _, rfl, rfl, _, rfl, ?_⟩
    rw [alpha_in]
    cases hle : K86.letr a with
    | false => exact iteT (iteT (no (by unfold K86.freeL; rw [hle]; rfl)))
    | true =>
    refine iteF ?_
    -- part[0] in used
    refine ⟨_, rfl, _, _, a, rfl, rfl, hz, atI_nat (j := 0) rfl, _, rfl, d, _, rfl, DGet.k (k := Sum.inr (S [a])) hD1, _, rfl, ?_⟩
    rw [ents_get a hD2]
    cases hus : K86.usd u a with
    | true => exact iteT (iteT (no (by unfold K86.freeL; rw [hle, hus]; rfl)))
    | false =>
    refine iteF ?_
    have hfr : K86.freeL u a = true := by
      unfold K86.freeL
      rw [hle, hus]
      rfl
    rw [hfr, Bool.true_and] at k no
    -- part[1] != '='
    refine ⟨_, rfl, _, _, e, rfl, rfl, hz, atI_nat (j := 1) rfl, rfl, _, rfl, ?_⟩
    rw [show (⟨#[e]⟩ : Str) = S [e] from rfl, equals, V_str]
    by_cases he : e = 61
    case neg =>
      rw [decide_eq_false (fun z => he (by cases z; rfl))]
      exact iteT (no (by rw [decide_eq_false he]; rfl))
    rw [decide_eq_true (by rw [he])]
    refine iteF ?_
    rw [decide_eq_true he, Bool.true_and] at k
    have hAt : Asc t := fun c hc => hA c (List.mem_cons_of_mem _ (List.mem_cons_of_mem _ hc))
    have hlt : t.length ≤ 598 := by simp only [List.length_cons] at hl; omega
    -- [.. for one in part[2:].split(',') if ..] == []
    refine ⟨_, rfl, _, rfl, _, rfl, hz, ⟨_, rfl⟩, _, _, rfl, rfl, by rfl, ?_, fun L hL => ?_⟩
    · have := cutS_length (S (a :: e :: t)) (some 2) none
      rw [S_len (a :: e :: t)] at this
      exact line_le (by omega)
    have ec : cutS (S (a :: e :: t)) (some 2) none = S t := cut1 (a :: e :: t) 2
    rw [ec, comma, split_eq (by decide)]
    have hL1 : (upd H L (.lst (txs (K86.spc 44 t)))) L = some (.lst (txs (K86.spc 44 t))) := upd_same
    have sm1 : Same H (upd H L (.lst (txs (K86.spc 44 t)))) := same_new hL
    generalize upd H L (.lst (txs (K86.spc 44 t))) = H1 at hL1 sm1
    have hps := spc_len 44 t
    have hpa : ∀ p ∈ K86.spc 44 t, Asc p := spc_asc hAt
    have kk : K86.numsOk t = (K86.spc 44 t).all (K86.num K86.big) := rfl
    rw [kk] at k
    generalize K86.spc 44 t = ps at hL1 hps hpa k
    refine ⟨L, rfl, ⟨_, SqL.of hL1⟩, fun D hD => lc_list (K := K) (a := L) (xs := txs ps) (fun i H' => Same H1 H' ∧ H' D = some (.lst (txs (bad ps i)))) ⟨same_new hD, upd_same⟩
      (fun i H' _ q => SqL.of (q.1 _ _ hL1)) (fun i x Hc hx q => ?_) (fun Hd q => ?_)⟩
    · obtain ⟨p, hp, rfl⟩ := txs_get hx
      have hpm : p ∈ ps := List.mem_of_getElem? hp
      refine ⟨rfl, _, rfl, p, K86.big, rfl, big_le, by have := hps.2 p hpm; omega, hpa p hpm, fun H' s => ⟨_, rfl, ?_⟩⟩
      cases hn : K86.num K86.big p with
      | true =>
        refine iteF ⟨q.1.trans s, ?_⟩
        rw [bad_next hp, if_pos hn]
        exact s _ _ q.2
      | false =>
        refine iteT ⟨_, rfl, _, s _ _ q.2, ?_, ?_, ?_⟩
        · rw [strs_len]
          exact small1000 (Nat.le_trans (bad_len _ _) (by omega))
        · intro b o z
          rw [upd_ne (ne_of_none z hD)]
          exact s _ _ (q.1 _ _ z)
        · rw [upd_same, bad_next hp, if_neg (by rw [hn]; simp), txs, txs, List.map_append]
          rfl
    obtain ⟨sm2, hb⟩ := q
    rw [strs_len] at hb
    refine ⟨line_le (by decide), fun D2 hD2 => ⟨_, _, dp_list (ps := bad ps ps.length) (by rw [upd_ne (ne_of_none hb hD2)]; exact hb), dp_list (ps := []) upd_same, shaped_strs fun p hp => hpa p (bad_mem hp), shaped_nil, ?_⟩⟩
    rw [show dS [] = [] from rfl, eqv_nil, bad_nil]
    exact k _ (sm1.trans (sm2.trans (same_new hD2)))
end

theorem begVal_cons {u : K86.Vls} {a : Nat} {r : List Nat} : K86.begVal u (a :: r) = (K86.freeL u a && (decide (r = []) || (decide (r.head? = some 61) && K86.numsBegin r.tail))) := by
  cases r with
  | nil => simp [K86.begVal]
  | cons e t => simp [K86.begVal, Bool.and_assoc]
theorem cut_last (xs : List V) (h : xs ≠ []) : cutV xs none (some (-1)) = xs.dropLast := by
  have hl : 0 < xs.length := List.length_pos_iff.mpr h
  unfold cutV
  rw [HT.sIx_none]
  have e : HT.sIx xs.length xs.length (some (-1)) = xs.length - 1 := by
    show (if (-1 : Int) < 0 then ((-1 : Int) + (xs.length : Int)).toNat else min (-1 : Int).toNat xs.length) = _
    rw [if_pos (by decide)]
    omega
  rw [e, List.drop_zero, Nat.sub_zero, List.dropLast_eq_take]
section
variable {P : Program} {w : World} {K : PySem.W.Frag} {mg : Str → Option Value} {base : Heap}
/-! ### _law_begins_value -/
def spBV : Sp := fun vs H Q _ => ∃ (l : List Nat) (d : Addr) (u : K86.Vls), vs = [.str (S l), .ref d] ∧ l.length ≤ 600 ∧ Asc l ∧ DctAt H d u ∧ ∀ H', Same H H' → Q (.bl (K86.begVal u l)) H'
theorem scBV : FnScope ["_law_part", "_law_used", "_law_numbers", "_law_one"] ["_law_part", "_law_used"] (defScope (st 26)) := ⟨rfl, rfl, rfl, by decide +kernel, rfl, by decide +kernel, by decide +kernel⟩
theorem ok_bv {f : Addr} {fd : FuncData} (F : Fun K "_law_begins_value" "_law_begins_value" (st 26) f fd) (B : Bl mg) (cIN : Cl P w K mg base L2.CX0 1 "_law_is_number" ["_law_string", "_law_most"] spIN) : FnOk P w K mg base L2.CX0 3 f fd ["_law_part", "_law_used"] spBV := by
  refine F.ok scBV (fun vs H Q E h => ?_) (fun cdv A outer s H vs Q E hr h => ?_)
  · obtain ⟨l, d, u, rfl, _⟩ := h
    rfl
  · obtain ⟨l, d, u, rfl, hl, hA, hD, k⟩ := h
    have hu := hu_of hr
    refine ⟨_, (pss_cons (ps_if (pt_cmpR op_eq (pv 0) pe_str (nomark _)) (pss_one (ps_ret pe_bl)) pss_nil)
      (pss_cons (ps_if (PW.pt (pw_or (pt_cmpR op_notIn_sign (pe_ix ix_str (pv 0) pe_int (fun _ _ => rfl)) pe_str (by rfl)) (pw_or (pt_cmp (pc_din hu (pe_ix ix_str (pv 0) pe_int (fun _ _ => rfl)) (pv 1))) (pw_or1 (pt_cmpR op_notIn_seq (pe_slice sl_str (pv 0) (po_some pe_int) (po_some pe_int)) (pe_tup (pa_cons pe_str (pa_cons pe_str pa_nil))) (by rfl)))))) (pss_one (ps_ret pe_bl)) pss_nil)
      (pss_cons (ps_set (i := 2) scBV.nd rfl (Or.inl rfl) (pe_split (pe_slice sl_str (pv 0) (po_some pe_int) po_none) pe_str))
      (pss_cons (ps_if (pt_cmpR (op_neD hr.units) (pe_lc (own := [("_law_one", 3)]) (g := gName 3) rfl scBV.nd (pi_list (pe_slice sl_list (pv 2) po_none (po_some (pe_un un_neg pe_int)))) (blkOk_by (own := [("_law_one", 3)]) (N := ["_law_part", "_law_used", "_law_numbers", "_law_one"]) (sc := defScope (st 26)) (by decide +kernel)) (fun _ _ _ _ _ => pg_name (i := 3) scBV.nd rfl (Or.inl rfl)) (fun _ _ _ _ _ => (pts_one (pt_not (pt_val (by exact (pe_cl cIN hr (by decide) rfl pass0 (by exact (pa_cons (pv 3) (pa_cons pe_int pa_nil))))))))) (fun _ _ _ _ _ => (pv 3))) (pe_lst pa_nil) (nomark _)) (pss_one (ps_ret pe_bl)) pss_nil)
      (pss_one (ps_ret (pe_or (pe_cmpR op_eq (pe_ix ix_list (pv 2) (pe_un un_neg pe_int) (fun _ _ => rfl)) pe_str (nomark _)) (pe_one (by exact (pe_cl cIN hr (by decide) rfl pass0 (by exact (pa_cons (pe_ix ix_list (pv 2) (pe_un un_neg pe_int) (fun _ _ => rfl)) (pa_cons pe_int pa_nil))))))))))))), ?_⟩
    have fin : ∀ {b : Bool} {H' : Hp}, Same H H' → K86.begVal u l = b → Q (.bl b) H' := fun {b H'} s z => by
      rw [← z]
      exact k H' s
    -- part == ''
    refine ⟨_, rfl, rfl, _, rfl, ?_⟩
    rw [V_emp]
    by_cases h0 : l = []
    case pos =>
      rw [decide_eq_true h0]
      exact iteT (fin (Same.refl _) (by rw [h0]; rfl))
    rw [decide_eq_false h0]
    refine iteF ?_
    obtain ⟨a, r, rfl⟩ : ∃ a r, l = a :: r := by
      cases l with
      | nil => exact absurd rfl h0
      | cons a r => exact ⟨a, r, rfl⟩
    obtain ⟨kvs, hD1, hD2⟩ := id hD
    have hz : (S (a :: r)).length ≤ sizeLine := by rw [S_len]; exact line_le (by omega)
    -- part[0] not in ..
    refine ⟨_, rfl, _, _, a, rfl, rfl, hz, atI_nat (j := 0) rfl, a, _, rfl, rfl, _, rfl, ?_⟩
    rw [alpha_in]
    cases hle : K86.letr a with
    | false => exact iteT (iteT (fin (Same.refl _) (by rw [begVal_cons]; unfold K86.freeL; rw [hle]; rfl)))
    | true =>
    refine iteF ?_
    -- part[0] in used
    refine ⟨_, rfl, _, _, a, rfl, rfl, hz, atI_nat (j := 0) rfl, _, rfl, d, _, rfl, DGet.k (k := Sum.inr (S [a])) hD1, _, rfl, ?_⟩
    rw [ents_get a hD2]
    cases hus : K86.usd u a with
    | true => exact iteT (iteT (fin (Same.refl _) (by rw [begVal_cons]; unfold K86.freeL; rw [hle, hus]; rfl)))
    | false =>
    refine iteF ?_
    have hfr : K86.freeL u a = true := by
      unfold K86.freeL
      rw [hle, hus]
      rfl
    -- part[1:2] not in ('', '=')
    refine ⟨_, rfl, _, rfl, _, rfl, _, rfl, hz, line_le (show 2 ≤ 5000 by decide), fun p hp => ⟨p, _, rfl, .inr (SqT.of upd_same), rfl, rfl, _, rfl, ?_⟩⟩
    have ec : cutS (S (a :: r)) (some 1) (some 2) = S (r.take 1) := cut2 (a :: r) 1 2
    have ein : inV (.str (S (r.take 1))) [V.str (Str.ofString ""), V.str (Str.ofString "=")] = (decide (r = []) || decide (r.head? = some 61)) := by
      show ((Str.ofString "" == S (r.take 1)) || ((Str.ofString "=" == S (r.take 1)) || false)) = _
      rw [empt, equals, SX.S_beq_eq, SX.S_beq_eq, Bool.or_false]
      cases r with
      | nil => rfl
      | cons e t =>
        have e1 : decide (([] : List Nat) = (e :: t).take 1) = decide (e :: t = []) := decide_eq_decide.mpr (by simp)
        have e2 : decide (([61] : List Nat) = (e :: t).take 1) = decide ((e :: t).head? = some 61) := decide_eq_decide.mpr (by simp [eq_comm])
        rw [e1, e2]
    rw [if_pos rfl, ec, ein]
    have smp : Same H (upd H p (.tup [V.str (Str.ofString ""), V.str (Str.ofString "=")])) := same_new hp
    generalize upd H p (.tup [V.str (Str.ofString ""), V.str (Str.ofString "=")]) = H0 at smp
    cases hh : (decide (r = []) || decide (r.head? = some 61)) with
    | false =>
      refine iteT (fin smp ?_)
      rw [Bool.or_eq_false_iff] at hh
      rw [begVal_cons, hh.1, hh.2]
      simp
    | true =>
    refine iteF ?_
    have hbv : K86.begVal u (a :: r) = K86.numsBegin (r.drop 1) := by
      rw [begVal_cons, hfr, Bool.true_and]
      cases r with
      | nil => rfl
      | cons e t =>
        have : decide ((e :: t).head? = some 61) = true := by simpa using hh
        rw [this]
        simp
    have hAt : Asc (r.drop 1) := fun c hc => hA c (List.mem_cons_of_mem _ (List.mem_of_mem_drop hc))
    have hlt : (r.drop 1).length ≤ 600 := by
      rw [List.length_drop]
      simp only [List.length_cons] at hl
      omega
    -- numbers = part[2:].split(',')
    refine ⟨_, rfl, _, rfl, _, rfl, hz, ⟨_, rfl⟩, _, _, rfl, rfl, by rfl, ?_, fun L hL => ?_⟩
    · have := cutS_length (S (a :: r)) (some 2) none
      rw [S_len (a :: r)] at this
      exact line_le (by omega)
    have ec2 : cutS (S (a :: r)) (some 2) none = S (r.drop 1) := cut1 (a :: r) 2
    rw [ec2, comma, split_eq (by decide)]
    rw [hbv] at fin
    generalize r.drop 1 = t at fin hAt hlt
    have hL1 : (upd H0 L (.lst (txs (K86.spc 44 t)))) L = some (.lst (txs (K86.spc 44 t))) := upd_same
    have sm1 : Same H (upd H0 L (.lst (txs (K86.spc 44 t)))) := smp.trans (same_new hL)
    generalize upd H0 L (.lst (txs (K86.spc 44 t))) = H1 at hL1 sm1
    have hps := spc_len 44 t
    have hpa : ∀ p ∈ K86.spc 44 t, Asc p := spc_asc hAt
    have hne := K86.spc_ne 44 t
    have kk : K86.numsBegin t = ((K86.spc 44 t).dropLast.all (K86.num K86.big) && (decide ((K86.spc 44 t).getLast? = some []) || (match (K86.spc 44 t).getLast? with | some q => K86.num K86.big q | none => false))) := rfl
    rw [kk] at fin
    generalize K86.spc 44 t = ps at hL1 hps hpa hne fin
    obtain ⟨qs, z, rfl⟩ : ∃ qs z, ps = qs ++ [z] := ⟨ps.dropLast, ps.getLast hne, (List.dropLast_concat_getLast hne).symm⟩
    rw [List.dropLast_concat, List.getLast?_concat] at fin
    have fin : ∀ {b : Bool} {H' : Hp}, Same H H' → (qs.all (K86.num K86.big) && (decide (z = []) || K86.num K86.big z)) = b → Q (.bl b) H' := fun {b H'} s e => fin s (by rw [← e]; simp)
    have hqa : ∀ p ∈ qs, Asc p := fun p hp => hpa p (List.mem_append_left _ hp)
    have hqs : ∀ p ∈ qs, p.length ≤ 600 := fun p hp => by
      have := hps.2 p (List.mem_append_left _ hp)
      omega
    have hql : qs.length ≤ 601 := by
      have := hps.1
      rw [List.length_append] at this
      omega
    have hzl : z.length ≤ 600 := by
      have := hps.2 z (by simp)
      omega
    have hza : Asc z := hpa z (by simp)
    -- if [.. for one in numbers[:-1] if ..] != []
    refine ⟨_, rfl, _, rfl, _, rfl, L, _, rfl, SqL.of hL1, fun L2 hL2 => ?_⟩
    have ecv : cutV (txs (qs ++ [z])) none (some (-1)) = txs qs := by
      rw [cut_last _ (by simp), txs, List.map_append, List.map_cons, List.map_nil, List.dropLast_concat]
    rw [ecv]
    have hM1 : (upd H1 L2 (.lst (txs qs))) L2 = some (.lst (txs qs)) := upd_same
    have hM2 : (upd H1 L2 (.lst (txs qs))) L = some (.lst (txs (qs ++ [z]))) := by rw [upd_ne (ne_of_none hL1 hL2)]; exact hL1
    have smM : Same H (upd H1 L2 (.lst (txs qs))) := sm1.trans (same_new hL2)
    generalize upd H1 L2 (.lst (txs qs)) = H2 at hM1 hM2 smM
    refine ⟨L2, rfl, ⟨_, SqL.of hM1⟩, fun D hD => lc_list (K := K) (a := L2) (xs := txs qs) (fun i H' => Same H2 H' ∧ H' D = some (.lst (txs (bad qs i)))) ⟨same_new hD, upd_same⟩
      (fun i H' _ q => SqL.of (q.1 _ _ hM1)) (fun i x Hc hx q => ?_) (fun Hd q => ?_)⟩
    · obtain ⟨p, hp, rfl⟩ := txs_get hx
      have hpm : p ∈ qs := List.mem_of_getElem? hp
      refine ⟨rfl, _, rfl, p, K86.big, rfl, big_le, hqs p hpm, hqa p hpm, fun H' s => ⟨_, rfl, ?_⟩⟩
      cases hn : K86.num K86.big p with
      | true =>
        refine iteF ⟨q.1.trans s, ?_⟩
        rw [bad_next hp, if_pos hn]
        exact s _ _ q.2
      | false =>
        refine iteT ⟨_, rfl, _, s _ _ q.2, ?_, ?_, ?_⟩
        · rw [strs_len]
          exact small1000 (Nat.le_trans (bad_len _ _) (by omega))
        · intro b o z
          rw [upd_ne (ne_of_none z hD)]
          exact s _ _ (q.1 _ _ z)
        · rw [upd_same, bad_next hp, if_neg (by rw [hn]; simp), txs, txs, List.map_append]
          rfl
    obtain ⟨sm2, hb⟩ := q
    rw [strs_len] at hb
    refine ⟨line_le (by decide), fun D2 hD2 => ⟨_, _, dp_list (ps := bad qs qs.length) (by rw [upd_ne (ne_of_none hb hD2)]; exact hb), dp_list (ps := []) upd_same, shaped_strs fun p hp => hqa p (bad_mem hp), shaped_nil, _, rfl, ?_⟩⟩
    rw [show dS [] = [] from rfl, eqv_nil, bad_nil]
    have sm3 : Same H (upd Hd D2 (.lst [])) := smM.trans (sm2.trans (same_new hD2))
    have hN : (upd Hd D2 (.lst [])) L = some (.lst (txs (qs ++ [z]))) := by
      have := sm2 _ _ hM2
      rw [upd_ne (ne_of_none this hD2)]
      exact this
    generalize upd Hd D2 (.lst []) = H3 at sm3 hN
    cases hall : qs.all (K86.num K86.big) with
    | false =>
      rw [hall] at fin
      exact iteT (fin sm3 rfl)
    | true =>
    rw [hall] at fin
    refine iteF ?_
    -- return numbers[-1] == '' or ..
    have hat : atI (txs (qs ++ [z])) (-1) = some (V.str (S z)) := by
      rw [txs, List.map_append]
      exact atI_last _ _
    refine ⟨_, rfl, _, rfl, L, _, _, _, rfl, rfl, SqL.of hN, hat, rfl, ?_⟩
    rw [V_emp]
    by_cases hz0 : z = []
    · refine ⟨true, by rw [decide_eq_true hz0], iteT (fin sm3 ?_)⟩
      rw [decide_eq_true hz0]
      rfl
    · refine ⟨false, by rw [decide_eq_false hz0], iteF ?_⟩
      refine ⟨_, rfl, _, rfl, L, _, _, _, rfl, rfl, SqL.of hN, hat, z, K86.big, rfl, big_le, hzl, hza, fun H' s => fin (sm3.trans s) ?_⟩
      rw [decide_eq_false hz0]
      rfl
end
end W86

-- W86h
set_option Elab.async false
set_option linter.all false
set_option maxRecDepth 100000
set_option maxHeartbeats 4000000
namespace W86
open PySem L2 PySem.Spec PyProof.Rows

section
variable {P : Program} {w : World} {K : PySem.W.Frag} {mg : Str → Option Value} {base : Heap}
/-! ### _law_place_of -/
def rPO (H : Hp) (Q : VK) : Option (Nat × K86.Vls) → Prop
  | none => ∀ H', Same H H' → Q .non H'
  | some r => ∀ (p : Addr) (H' : Hp), Same H H' → PlAt H' p r.1 r.2 → Q (.ref p) H'
def spPO : Sp := fun vs H Q _ => ∃ l : List Nat, vs = [.str (S l)] ∧ l.length ≤ 600 ∧ Asc l ∧ rPO H Q (K86.placeOf l)
theorem scPO : FnScope ["_law_line", "_law_parts", "_law_values", "_law_part", "_law_one"] ["_law_line"] (defScope (st 27)) := ⟨rfl, rfl, rfl, by decide +kernel, rfl, by decide +kernel, by decide +kernel⟩
/-- behind i parts -/
def ivPO (l : List Nat) (p0 : List Nat) (ws : List (List Nat)) (H : Hp) (L d : Addr) (A : Addr) : Nat → L2.St → Hp → Prop := fun i σ H' => ∃ (u : K86.Vls) (v : Option V), σ = [some (.str (S l)), some (.ref L), some (.ref d), v, none] ∧
  K86.placeP [] ws = K86.placeP u (ws.drop i) ∧ Same H H' ∧ H d = none ∧ DctAt H' d u ∧ H' L = some (.lst (txs (p0 :: ws))) ∧ H' A = some (.lst (txs ws)) ∧ u.length = i
theorem isVal_head {u : K86.Vls} {w : List Nat} (h : K86.isVal u w = true) : ∃ a t, w = a :: 61 :: t ∧ K86.freeL u a = true ∧ K86.numsOk t = true := by
  match w with
  | [] => cases h
  | [_] => cases h
  | a :: e :: t =>
    simp only [K86.isVal, Bool.and_eq_true, decide_eq_true_eq] at h
    obtain ⟨⟨⟨h1, h2⟩, _⟩, h3⟩ := h
    exact ⟨a, t, by rw [h2], h1, h3⟩
theorem ok_po {f : Addr} {fd : FuncData} (F : Fun K "_law_place_of" "_law_place_of" (st 27) f fd) (B : Bl mg) (cIN : Cl P w K mg base L2.CX0 1 "_law_is_number" ["_law_string", "_law_most"] spIN)
    (cIV : Cl P w K mg base L2.CX0 3 "_law_is_value" ["_law_part", "_law_used"] spIV) : FnOk P w K mg base L2.CX0 5 f fd ["_law_line"] spPO := by
  refine F.ok scPO (fun vs H Q E h => ?_) (fun cdv A outer s H vs Q E hr h => ?_)
  · obtain ⟨l, rfl, _⟩ := h
    rfl
  · obtain ⟨l, rfl, hl, hA, k⟩ := h
    have hu := hu_of hr
    refine ⟨_, (pss_cons (ps_set (i := 1) scPO.nd rfl (Or.inl rfl) (pe_split (pv 0) pe_str))
      (pss_cons (ps_if (PW.pt (pw_or (pt_not (pt_val (by exact (pe_cl cIN hr (by decide) rfl pass0 (by exact (pa_cons (pe_ix ix_list (pv 1) pe_int (fun _ _ => rfl)) (pa_cons (pe_op op_pow pe_int pe_int) pa_nil))))))) (pw_or1 (pt_cmpR op_gt (pe_callB call_len_seq (by rfl) B.len PySem.boot_len (pa_cons (pv 1) pa_nil)) pe_int (nomark _))))) (pss_one (ps_ret pe_non)) pss_nil)
      (pss_cons (ps_set (i := 2) scPO.nd rfl (Or.inl rfl) pe_dnewK)
      (pss_cons (ps_for PassesOwn.never rfl (pi_list (pe_slice sl_list (pv 1) (po_some pe_int) po_none)) (pg_name (i := 3) scPO.nd rfl (Or.inl rfl)) (pss_cons (ps_if (pt_not (pt_val (by exact (pe_cl cIV hr (by decide) rfl pass0 (by exact (pa_cons (pv 3) (pa_cons (pv 2) pa_nil))))))) (pss_one (ps_ret pe_non)) pss_nil)
      (pss_one (ps_dput hu (pv 2) (pe_ix ix_str (pv 3) pe_int (fun _ _ => rfl)) (pe_callTy call_tuple_of (by rfl) B.tuple (by decide +kernel) (pa_cons (pe_lc (own := [("_law_one", 4)]) (g := gName 4) rfl scPO.nd (pi_list (pe_split (pe_slice sl_str (pv 3) (po_some pe_int) po_none) pe_str)) (blkOk_by (own := [("_law_one", 4)]) (N := ["_law_line", "_law_parts", "_law_values", "_law_part", "_law_one"]) (sc := defScope (st 27)) (by decide +kernel)) (fun _ _ _ _ _ => pg_name (i := 4) scPO.nd rfl (Or.inl rfl)) (fun _ _ _ _ _ => pts_nil) (fun _ _ _ _ _ => (pe_callTy call_int_str (by rfl) B.int (by decide +kernel) (pa_cons (pv 4) pa_nil)))) pa_nil)) rfl))))
      (pss_one (ps_ret (pe_tup (pa_cons (pe_callTy call_int_str (by rfl) B.int (by decide +kernel) (pa_cons (pe_ix ix_list (pv 1) pe_int (fun _ _ => rfl)) pa_nil)) (pa_cons (pv 2) pa_nil))))))))), ?_⟩
    have hz : (S l).length + 2 ≤ sizeLine := by rw [S_len]; exact line_le (by omega)
    -- parts = line.split(' ')
    refine ⟨_, rfl, ⟨_, rfl⟩, _, _, rfl, rfl, by rfl, hz, fun L hL => ?_⟩
    rw [blank, split_eq (by decide)]
    have hsp := K86.spc_ne 32 l
    have hps := spc_len 32 l
    have hpa : ∀ p ∈ K86.spc 32 l, Asc p := spc_asc hA
    unfold K86.placeOf at k
    generalize K86.spc 32 l = ps at hsp hps hpa k ⊢
    obtain ⟨p0, ws, rfl⟩ : ∃ p0 ws, ps = p0 :: ws := by
      cases ps with
      | nil => exact absurd rfl hsp
      | cons a r => exact ⟨a, r, rfl⟩
    have k : rPO H Q (if (K86.num K86.top p0 && decide (ws.length + 1 ≤ 9)) = true then (K86.placeP [] ws).map fun u => (K86.val p0, u) else none) := k
    have hps : ws.length + 1 ≤ l.length + 1 ∧ ∀ p ∈ p0 :: ws, p.length ≤ l.length := hps
    have hL1 : (upd H L (.lst (txs (p0 :: ws)))) L = some (.lst (txs (p0 :: ws))) := upd_same
    have sm1 : Same H (upd H L (.lst (txs (p0 :: ws)))) := same_new hL
    generalize upd H L (.lst (txs (p0 :: ws))) = H1 at hL1 sm1
    have hp0 : p0.length ≤ 600 := by
      have := hps.2 p0 (by simp)
      omega
    have hp0a : Asc p0 := hpa p0 (by simp)
    -- if not is_number(parts[0], 10 ** 18) or len(parts) > 9
    refine ⟨_, rfl, L, _, _, _, rfl, rfl, SqL.of hL1, atI_nat (j := 0) rfl, _, _, rfl, rfl, ⟨by decide, by decide, by decide⟩, p0, K86.top, rfl, Nat.le_refl _, hp0, hp0a, fun H2 s2 => ⟨_, rfl, ?_⟩⟩
    have hL2 := s2 _ _ hL1
    have sm2 := sm1.trans s2
    cases hn : K86.num K86.top p0 with
    | false =>
      rw [hn] at k
      exact iteT (iteT (k _ sm2))
    | true =>
    rw [hn, Bool.true_and] at k
    refine iteF ⟨_, rfl, L, _, rfl, .inl (SqL.of hL2), _, _, rfl, rfl, _, rfl, ?_⟩
    rw [strs_len, List.length_cons]
    by_cases h9 : ws.length + 1 ≤ 9
    case neg =>
      rw [decide_eq_true (by omega)]
      refine iteT ?_
      rw [decide_eq_false h9] at k
      exact k _ sm2
    rw [decide_eq_false (by omega)]
    refine iteF ?_
    rw [decide_eq_true h9, if_pos rfl] at k
    -- values = {}
    intro d hd
    have hL3 : (upd H2 d (.dK [])) L = some (.lst (txs (p0 :: ws))) := by rw [upd_ne (ne_of_none hL2 hd)]; exact hL2
    have hd3 : (upd H2 d (.dK [])) d = some (.dK []) := upd_same
    have sm3 : Same H (upd H2 d (.dK [])) := sm2.trans (same_new hd)
    have hdH : H d = none := sm2.free hd
    generalize upd H2 d (.dK []) = H3 at hL3 hd3 sm3
    -- for part in parts[1:]
    refine ⟨_, rfl, _, rfl, L, _, rfl, SqL.of hL3, fun A2 hA2 => ?_⟩
    have ecv : cutV (txs (p0 :: ws)) (some 1) none = txs ws := by
      unfold cutV
      rw [HT.sIx_none, show (1 : Int) = ((1 : Nat) : Int) from rfl, HT.sIx_nat, strs_len, List.length_cons, show min 1 (ws.length + 1) = 1 from by omega]
      show (txs ws).take _ = _
      exact List.take_of_length_le (by rw [strs_len]; omega)
    rw [ecv]
    have hA4 : (upd H3 A2 (.lst (txs ws))) A2 = some (.lst (txs ws)) := upd_same
    have hL4 : (upd H3 A2 (.lst (txs ws))) L = some (.lst (txs (p0 :: ws))) := by rw [upd_ne (ne_of_none hL3 hA2)]; exact hL3
    have hd4 : (upd H3 A2 (.lst (txs ws))) d = some (.dK []) := by rw [upd_ne (ne_of_none hd3 hA2)]; exact hd3
    have sm4 : Same H (upd H3 A2 (.lst (txs ws))) := sm3.trans (same_new hA2)
    generalize upd H3 A2 (.lst (txs ws)) = H4 at hA4 hL4 hd4 sm4
    refine ⟨A2, rfl, ⟨_, SqL.of hA4⟩, for_list (K := K) (a := A2) (xs := txs ws) (ivPO l p0 ws H L d A2) ⟨[], none, rfl, rfl, sm4, hdH, ⟨[], hd4, .nil⟩, hL4, hA4, rfl⟩
      (fun i σ H' _ q => let ⟨_, _, _, _, _, _, _, _, e, _⟩ := q; SqL.of e) (fun i x σ Hc hx q => ?_) (fun σ Hd q => ?_)⟩
    · obtain ⟨p, hp, rfl⟩ := txs_get hx
      obtain ⟨u, v, rfl, hk, sm, _, hD, hLc, hAc, hul⟩ := q
      have hpm : p ∈ ws := List.mem_of_getElem? hp
      have hpl : p.length ≤ 600 := by
        have := hps.2 p (List.mem_cons_of_mem _ hpm)
        omega
      have hpas : Asc p := hpa p (List.mem_cons_of_mem _ hpm)
      have hil : i < ws.length := (List.getElem?_eq_some_iff.mp hp).1
      have hdr : ws.drop i = p :: ws.drop (i + 1) := by
        rw [List.drop_eq_getElem_cons hil]
        rw [List.getElem?_eq_getElem hil] at hp
        rw [Option.some.inj hp]
      rw [hdr] at hk
      have hk : K86.placeP [] ws = if K86.isVal u p = true then K86.placeP (u ++ [(p.headD 0, K86.valsOf p)]) (ws.drop (i + 1)) else none := hk
      -- if not is_value(part, values)
      refine ⟨_, rfl, _, rfl, p, d, u, rfl, hpl, hpas, hD, fun H5 s5 => ⟨_, rfl, ?_⟩⟩
      cases hv : K86.isVal u p with
      | false =>
        refine iteT ?_
        rw [hk, hv, if_neg (by simp)] at k
        exact k _ (sm.trans s5)
      | true =>
      refine iteF ?_
      rw [hv, if_pos rfl] at hk
      have hD5 := hD.same s5
      have hL5 := s5 _ _ hLc
      have hA5 := s5 _ _ hAc
      have sm5 := sm.trans s5
      obtain ⟨a, t, rfl, hfr, hok⟩ := isVal_head hv
      have hzp : (S (a :: 61 :: t)).length ≤ sizeLine := by rw [S_len]; exact line_le (by omega)
      -- tuple([int(one) for one in part[2:].split(',')])
      refine ⟨_, rfl, _, rfl, _, rfl, hzp, ⟨_, rfl⟩, _, _, rfl, rfl, by rfl, ?_, fun B1 hB1 => ?_⟩
      · have := cutS_length (S (a :: 61 :: t)) (some 2) none
        rw [S_len (a :: 61 :: t)] at this
        exact line_le (by omega)
      have ec : cutS (S (a :: 61 :: t)) (some 2) none = S t := cut1 (a :: 61 :: t) 2
      rw [ec, comma, split_eq (by decide)]
      have hvals : K86.valsOf (a :: 61 :: t) = (K86.spc 44 t).map K86.val := rfl
      rw [hvals] at hk
      have hqn : ∀ q ∈ K86.spc 44 t, K86.num K86.big q = true := List.all_eq_true.mp hok
      have hqs := spc_len 44 t
      have htl : t.length ≤ 598 := by simp only [List.length_cons] at hpl; omega
      generalize K86.spc 44 t = qs at hk hqn hqs ⊢
      have hB6 : (upd H5 B1 (.lst (txs qs))) B1 = some (.lst (txs qs)) := upd_same
      have s6 : Same H5 (upd H5 B1 (.lst (txs qs))) := same_new hB1
      generalize upd H5 B1 (.lst (txs qs)) = H6 at hB6 s6
      refine ⟨B1, rfl, ⟨_, SqL.of hB6⟩, fun D hDn => lc_list (K := K) (a := B1) (xs := txs qs) (fun i H' => Same H6 H' ∧ H' D = some (.lst (iv ((qs.take i).map K86.val)))) ⟨same_new hDn, upd_same⟩
        (fun i H' _ q => SqL.of (q.1 _ _ hB6)) (fun j x Hc hx q => ?_) (fun He q => ?_)⟩
      · obtain ⟨y, hy, rfl⟩ := txs_get hx
        have hym : y ∈ qs := List.mem_of_getElem? hy
        obtain ⟨n1, n2, _, _⟩ := K86.num_iff.mp (hqn y hym)
        have hyl : y.length ≤ 600 := by have := hqs.2 y hym; omega
        have hjl : j < qs.length := (List.getElem?_eq_some_iff.mp hy).1
        refine ⟨rfl, ?_⟩
        unfold tYes
        refine iteT ⟨_, rfl, _, ((K86.val y : Nat) : Int), rfl, int_of n2 n1 (by omega), by rw [S_len]; omega, _, q.2, ?_, ?_, ?_⟩
        · rw [List.length_map, List.length_map, List.length_take]
          exact small1000 (by omega)
        · intro b o z
          rw [upd_ne (ne_of_none z hDn)]
          exact q.1 _ _ z
        · rw [upd_same, List.take_add_one, hy, iv, iv, List.map_append, List.map_append]
          rfl
      obtain ⟨s7, hDe⟩ := q
      rw [strs_len, List.take_length] at hDe
      refine ⟨D, _, rfl, .inl ⟨SqL.of hDe, fun t1 ht1 => ?_⟩⟩
      have s8 : Same H5 (upd He t1 (.tup (iv (qs.map K86.val)))) := s6.trans (s7.trans (same_new ht1))
      have ht8 : (upd He t1 (.tup (iv (qs.map K86.val)))) t1 = some (.tup (iv (qs.map K86.val))) := upd_same
      generalize upd He t1 (.tup (iv (qs.map K86.val))) = H8 at s8 ht8
      obtain ⟨kvs, g1, g2⟩ := hD5.same s8
      have hus : K86.usd u a = false := by
        unfold K86.freeL at hfr
        simp only [Bool.and_eq_true, Bool.not_eq_true'] at hfr
        exact hfr.2
      have hcount : kvs.length = u.length := (Paired.length g2).symm
      refine ⟨_, rfl, _, rfl, _, _, a, rfl, rfl, hzp, atI_nat (j := 0) rfl, d, _, rfl, DPut.k (k := Sum.inr (S [a])) g1 (small1000 (by omega)), ?_⟩
      have keep : ∀ {b : Addr} {o : HO}, H8 b = some o → b ≠ d → (upd H8 d (.dK (putK kvs (Sum.inr (S [a])) (.ref t1)))) b = some o := fun {b o} e ne => by rw [upd_ne ne]; exact e
      have nLd : L ≠ d := ne_of (s8 _ _ hL5) g1 (by intro z; cases z)
      have nAd : A2 ≠ d := ne_of (s8 _ _ hA5) g1 (by intro z; cases z)
      refine ⟨u ++ [(a, qs.map K86.val)], some (.str (S (a :: 61 :: t))), rfl, hk, fun b o z => keep (s8 _ _ (sm5 _ _ z)) (ne_of_none z hdH), hdH, DctAt.put g1 g2 hus ht8, keep (s8 _ _ hL5) nLd, keep (s8 _ _ hA5) nAd, ?_⟩
      rw [List.length_append, hul]
      rfl
    · obtain ⟨u, v, rfl, hk, sm, _, hD, hLd, _, _⟩ := q
      rw [strs_len, List.drop_length] at hk
      have hk : K86.placeP [] ws = some u := hk
      rw [hk] at k
      have k : ∀ (p : Addr) (H' : Hp), Same H H' → PlAt H' p (K86.val p0) u → Q (.ref p) H' := k
      obtain ⟨n1, n2, _, _⟩ := K86.num_iff.mp hn
      refine ⟨_, rfl, L, _, _, _, rfl, rfl, SqL.of hLd, atI_nat (j := 0) rfl, _, ((K86.val p0 : Nat) : Int), rfl, int_of n2 n1 (by omega), by rw [S_len]; omega, _, rfl, line_le (show 2 ≤ 5000 by decide), fun p hp => ?_⟩
      exact k p _ (sm.trans (same_new hp)) ⟨d, upd_same, hD.same (same_new hp)⟩
end
end W86

-- W86i
set_option Elab.async false
set_option linter.all false
set_option maxRecDepth 100000
set_option maxHeartbeats 4000000
namespace W86
open PySem L2 PySem.Spec PyProof.Rows

section
variable {P : Program} {w : World} {K : PySem.W.Frag} {mg : Str → Option Value} {base : Heap}
/-! ### _law_begins -/
def spBG : Sp := fun vs H Q _ => ∃ l : List Nat, vs = [.str (S l)] ∧ l.length ≤ 600 ∧ Asc l ∧ ∀ H', Same H H' → Q (.bl (K86.beginsF l)) H'
theorem scBG : FnScope ["_law_line", "_law_parts", "_law_begin"] ["_law_line"] (defScope (st 28)) := ⟨rfl, rfl, rfl, by decide +kernel, rfl, by decide +kernel, by decide +kernel⟩
theorem joc_len (c : Nat) : ∀ ps : List (List Nat), ((ps.map S).map (·.length)).sum + ps.length * 1 ≤ (K86.joc c ps).length + 1
  | [] => by simp [K86.joc]
  | [p] => by
    show (S p).length + 0 + 1 * 1 ≤ p.length + 1
    rw [S_len]
    omega
  | p :: q :: r => by
    have ih := joc_len c (q :: r)
    have e1 : (((p :: q :: r).map S).map (·.length)).sum = (S p).length + (((q :: r).map S).map (·.length)).sum := rfl
    have e2 : (K86.joc c (p :: q :: r)).length = p.length + ((K86.joc c (q :: r)).length + 1) := by
      show (p ++ c :: K86.joc c (q :: r)).length = _
      rw [List.length_append, List.length_cons]
    rw [e1, e2, S_len]
    simp only [List.length_cons] at ih ⊢
    omega
theorem joc_mem {c x : Nat} : ∀ {ps : List (List Nat)}, x ∈ K86.joc c ps → x = c ∨ ∃ p ∈ ps, x ∈ p
  | [], h => by cases h
  | [p], h => .inr ⟨p, by simp, h⟩
  | p :: q :: r, h => by
    have h : x ∈ p ++ c :: K86.joc c (q :: r) := h
    rcases List.mem_append.mp h with h | h
    · exact .inr ⟨p, by simp, h⟩
    · rcases List.mem_cons.mp h with h | h
      · exact .inl h
      · rcases joc_mem h with e | ⟨p', h1, h2⟩
        · exact .inl e
        · exact .inr ⟨p', List.mem_cons_of_mem _ h1, h2⟩
theorem joc_snoc (c : Nat) (z : List Nat) : ∀ qs : List (List Nat), qs ≠ [] → K86.joc c (qs ++ [z]) = K86.joc c qs ++ c :: z
  | [], h => absurd rfl h
  | [p], _ => rfl
  | p :: q :: r, _ => by
    have ih := joc_snoc c z (q :: r) (by simp)
    show p ++ c :: K86.joc c (q :: (r ++ [z])) = (p ++ c :: K86.joc c (q :: r)) ++ c :: z
    rw [show q :: (r ++ [z]) = q :: r ++ [z] from rfl, ih, List.append_assoc]
    rfl
theorem strs_S (ps : List (List Nat)) : txs ps = (ps.map S).map V.str := by
  rw [List.map_map]
  rfl
theorem ok_bg {f : Addr} {fd : FuncData} (F : Fun K "_law_begins" "_law_begins" (st 28) f fd) (B : Bl mg) (cIN : Cl P w K mg base L2.CX0 1 "_law_is_number" ["_law_string", "_law_most"] spIN)
    (cPO : Cl P w K mg base L2.CX0 5 "_law_place_of" ["_law_line"] spPO) (cBV : Cl P w K mg base L2.CX0 3 "_law_begins_value" ["_law_part", "_law_used"] spBV) : FnOk P w K mg base L2.CX0 6 f fd ["_law_line"] spBG := by
  refine F.ok scBG (fun vs H Q E h => ?_) (fun cdv A outer s H vs Q E hr h => ?_)
  · obtain ⟨l, rfl, _⟩ := h
    rfl
  · obtain ⟨l, rfl, hl, hA, k⟩ := h
    have hu := hu_of hr
    refine ⟨_, (pss_cons (ps_set (i := 1) scBG.nd rfl (Or.inl rfl) (pe_split (pv 0) pe_str))
      (pss_cons (ps_if (pt_cmpR op_eq (pe_callB call_len_seq (by rfl) B.len PySem.boot_len (pa_cons (pv 1) pa_nil)) pe_int (nomark _)) (pss_one (ps_ret (pe_or (pe_cmpR op_eq (pv 0) pe_str (nomark _)) (pe_one (by exact (pe_cl cIN hr (by decide) rfl pass0 (by exact (pa_cons (pv 0) (pa_cons (pe_op op_pow pe_int pe_int) pa_nil))))))))) pss_nil)
      (pss_cons (ps_set (i := 2) scBG.nd rfl (Or.inl rfl) (by exact (pe_cl cPO hr (by decide) rfl pass0 (by exact (pa_cons (pe_join pe_str (pe_slice sl_list (pv 1) po_none (po_some (pe_un un_neg pe_int)))) pa_nil)))))
      (pss_one (ps_ret (pe_and (pe_cmpR op_notN (pv 2) pe_non (nomark _)) (pe_and (pe_cmpR op_lt (pe_callB call_len_seq (by rfl) B.len PySem.boot_len (pa_cons (pv 1) pa_nil)) pe_int (nomark _)) (pe_one (by exact (pe_cl cBV hr (by decide) rfl pass0 (by exact (pa_cons (pe_ix ix_list (pv 1) (pe_un un_neg pe_int) (fun _ _ => rfl)) (pa_cons (pe_ix ix_tup (pv 2) pe_int (fun _ _ => rfl)) pa_nil))))))))))))), ?_⟩
    have hz : (S l).length + 2 ≤ sizeLine := by rw [S_len]; exact line_le (by omega)
    refine ⟨_, rfl, ⟨_, rfl⟩, _, _, rfl, rfl, by rfl, hz, fun L hL => ?_⟩
    rw [blank, split_eq (by decide)]
    have hsp := K86.spc_ne 32 l
    have hps := spc_len 32 l
    have hpa : ∀ p ∈ K86.spc 32 l, Asc p := spc_asc hA
    have hj := K86.joc_spc 32 l
    have hbf : K86.beginsF l = (if (K86.spc 32 l).length = 1 then decide (l = []) || K86.num K86.top l else match K86.placeOf (K86.joc 32 (K86.spc 32 l).dropLast) with
      | none => false
      | some p => decide ((K86.spc 32 l).length < 10) && K86.begVal p.2 ((K86.spc 32 l).getLast?.getD [])) := rfl
    generalize K86.spc 32 l = ps at hsp hps hpa hj hbf ⊢
    have hL1 : (upd H L (.lst (txs ps))) L = some (.lst (txs ps)) := upd_same
    have sm1 : Same H (upd H L (.lst (txs ps))) := same_new hL
    generalize upd H L (.lst (txs ps)) = H1 at hL1 sm1
    have fin : ∀ {b : Bool} {H' : Hp}, Same H H' → K86.beginsF l = b → Q (.bl b) H' := fun {b H'} s z => by
      rw [← z]
      exact k H' s
    rw [hbf] at fin
    -- if len(parts) == 1
    refine ⟨_, rfl, L, _, rfl, .inl (SqL.of hL1), rfl, _, rfl, ?_⟩
    rw [strs_len]
    by_cases h1 : ps.length = 1
    case pos =>
      rw [decide_eq_true (by rw [h1]; rfl)]
      refine iteT ⟨_, rfl, rfl, ?_⟩
      rw [if_pos h1] at fin
      rw [V_emp]
      by_cases h0 : l = []
      · refine ⟨true, by rw [decide_eq_true h0], iteT (fin sm1 ?_)⟩
        rw [decide_eq_true h0]
        rfl
      · refine ⟨false, by rw [decide_eq_false h0], iteF ?_⟩
        refine ⟨_, rfl, _, _, rfl, rfl, ⟨by decide, by decide, by decide⟩, l, K86.top, rfl, Nat.le_refl _, hl, hA, fun H' s => fin (sm1.trans s) ?_⟩
        rw [decide_eq_false h0]
        rfl
    rw [decide_eq_false (fun z => h1 (by have := V.int.inj z; omega))]
    refine iteF ?_
    rw [if_neg h1] at fin
    obtain ⟨qs, z, rfl⟩ : ∃ qs z, ps = qs ++ [z] := ⟨ps.dropLast, ps.getLast hsp, (List.dropLast_concat_getLast hsp).symm⟩
    rw [List.dropLast_concat, List.getLast?_concat] at fin
    have hqne : qs ≠ [] := fun e => h1 (by rw [e]; rfl)
    rw [joc_snoc 32 z qs hqne] at hj
    -- begin = place_of(' '.join(parts[:-1]))
    refine ⟨⟨_, rfl⟩, _, rfl, _, rfl, _, rfl, L, _, rfl, SqL.of hL1, fun L2 hL2 => ?_⟩
    have ecv : cutV (txs (qs ++ [z])) none (some (-1)) = txs qs := by
      rw [cut_last _ (by simp), txs, List.map_append, List.map_cons, List.map_nil, List.dropLast_concat]
    rw [ecv]
    have hM1 : (upd H1 L2 (.lst (txs qs))) L2 = some (.lst (txs qs)) := upd_same
    have hM2 : (upd H1 L2 (.lst (txs qs))) L = some (.lst (txs (qs ++ [z]))) := by rw [upd_ne (ne_of_none hL1 hL2)]; exact hL1
    have smM : Same H (upd H1 L2 (.lst (txs qs))) := sm1.trans (same_new hL2)
    generalize upd H1 L2 (.lst (txs qs)) = H2 at hM1 hM2 smM
    have hjl : (K86.joc 32 qs).length ≤ 600 := by
      have := congrArg List.length hj
      rw [List.length_append, List.length_cons] at this
      omega
    have hja : Asc (K86.joc 32 qs) := fun c hc => by
      rcases joc_mem hc with e | ⟨p, hp, hcp⟩
      · rw [e]; decide
      · exact hpa p (List.mem_append_left _ hp) c hcp
    refine ⟨_, L2, qs.map S, rfl, rfl, .inl (by rw [← strs_S]; exact SqL.of hM1), ?_, ?_⟩
    · have := joc_len 32 qs
      have e : (S [32]).length = 1 := rfl
      rw [List.length_map, e]
      omega
    rw [join_eq]
    refine ⟨_, rfl, hjl, hja, ?_⟩
    have hzl : z.length ≤ 600 := by
      have := hps.2 z (by simp)
      omega
    have hza : Asc z := hpa z (by simp)
    have hat : atI (txs (qs ++ [z])) (-1) = some (V.str (S z)) := by
      rw [txs, List.map_append]
      exact atI_last _ _
    cases hp : K86.placeOf (K86.joc 32 qs) with
    | none =>
      rw [hp] at fin
      intro H3 s3
      refine ⟨_, rfl, rfl, false, rfl, iteF (fin (smM.trans s3) rfl)⟩
    | some r =>
      obtain ⟨n, u⟩ := r
      rw [hp] at fin
      intro p H3 s3 hpl
      have hM3 := s3 _ _ hM2
      have smN := smM.trans s3
      obtain ⟨d, hpt, hD⟩ := id hpl
      refine ⟨_, rfl, rfl, true, rfl, iteT ⟨_, rfl, L, _, rfl, .inl (SqL.of hM3), _, _, rfl, rfl, _, rfl, ?_⟩⟩
      rw [strs_len]
      have fin : ∀ {b : Bool} {H' : Hp}, Same H H' → (decide ((qs ++ [z]).length < 10) && K86.begVal u z) = b → Q (.bl b) H' := fin
      by_cases h10 : (qs ++ [z]).length < 10
      case neg =>
        rw [decide_eq_false (by omega)]
        refine iteF (fin smN ?_)
        rw [decide_eq_false h10]
        rfl
      rw [decide_eq_true (by omega)]
      rw [decide_eq_true h10] at fin
      refine iteT ⟨_, rfl, _, rfl, L, _, _, _, rfl, rfl, SqL.of hM3, hat, _, rfl, p, _, _, _, rfl, rfl, SqT.of hpt, atI_nat (j := 1) rfl, z, d, u, rfl, hzl, hza, hD, fun H' s => fin (smN.trans s) (Bool.true_and _)⟩
end

section
variable {P : Program} {w : World} {K : PySem.W.Frag} {mg : Str → Option Value} {base : Heap}
/-! ### _law_longest -/
def spLG : Sp := fun vs H Q _ => ∃ (l : List Nat) (o : Nat), vs = [.str (S l)] ∧ l.length ≤ 600 ∧ Asc l ∧ o ≤ l.length ∧ (∀ p, p ≤ l.length → (K86.beginsF (l.take p) = true ↔ p ≤ o)) ∧ ∀ H', Same H H' → Q (.int o) H'
def ivLG (l : List Nat) (o : Nat) (H : Hp) : Nat → L2.St → Hp → Prop := fun μ σ H' => ∃ (lo hi : Nat) (v : Option V), lo ≤ o ∧ o ≤ hi ∧ hi ≤ l.length ∧ σ = [some (.str (S l)), some (.int lo), some (.int hi), v] ∧ Same H H' ∧ μ = hi - lo
theorem scLG : FnScope ["_law_line", "_law_low", "_law_high", "_law_middle"] ["_law_line"] (defScope (st 29)) := ⟨rfl, rfl, rfl, by decide +kernel, rfl, by decide +kernel, by decide +kernel⟩
theorem ok_lg {f : Addr} {fd : FuncData} (F : Fun K "_law_longest" "_law_longest" (st 29) f fd) (B : Bl mg) (cBG : Cl P w K mg base L2.CX0 6 "_law_begins" ["_law_line"] spBG) : FnOk P w K mg base L2.CX0 7 f fd ["_law_line"] spLG := by
  refine F.ok scLG (fun vs H Q E h => ?_) (fun cdv A outer s H vs Q E hr h => ?_)
  · obtain ⟨l, o, rfl, _⟩ := h
    rfl
  · obtain ⟨l, o, rfl, hl, hA, ho, hb, k⟩ := h
    refine ⟨_, (pss_cons (ps_par (by rfl) scLG.nd rfl rfl (i := 1) (j := 2) (by decide) rfl rfl (pa_cons pe_int (pa_cons (pe_callB call_len_str (by rfl) B.len PySem.boot_len (pa_cons (pv 0) pa_nil)) pa_nil)) (by rfl))
      (pss_cons (ps_while PassesOwn.never (pt_cmpR op_lt (pv 1) (pv 2) (nomark _)) (pss_cons (ps_set (i := 3) scLG.nd rfl (Or.inl rfl) (pe_op op_fdiv (pe_op op_add (pe_op op_add (pv 1) (pv 2)) pe_int) pe_int))
      (pss_one (ps_if (pt_val (by exact (pe_cl cBG hr (by decide) rfl pass0 (by exact (pa_cons (pe_slice sl_str (pv 0) po_none (po_some (pv 3))) pa_nil))))) (pss_one (ps_set (i := 1) scLG.nd rfl (Or.inl rfl) (pv 3))) (pss_one (ps_set (i := 2) scLG.nd rfl (Or.inl rfl) (pe_op op_sub (pv 3) pe_int)))))))
      (pss_one (ps_ret (pv 1))))), ?_⟩
    refine ⟨_, rfl, _, rfl, by rw [S_len]; exact line_le (by omega), _, _, rfl, ?_⟩
    refine ⟨ivLG l o H, ⟨_, 0, l.length, none, Nat.zero_le _, ho, Nat.le_refl _, by rw [S_len]; rfl, Same.refl _, rfl⟩, ?_⟩
    rintro μ σ H1 ⟨lo, hi, v, h1, h2, h3, rfl, sm, rfl⟩
    refine ⟨_, rfl, _, rfl, _, _, rfl, rfl, _, rfl, ?_⟩
    by_cases hlt : lo < hi
    case neg =>
      rw [decide_eq_false (by omega)]
      refine iteF ⟨_, rfl, ?_⟩
      have : lo = o := by omega
      rw [this]
      exact k _ sm
    rw [decide_eq_true (by omega)]
    refine iteT ⟨fun σ' H2 => ∃ m', m' < hi - lo ∧ ivLG l o H m' σ' H2, fun _ _ e => e, ?_⟩
    refine ⟨_, rfl, _, rfl, _, _, rfl, rfl, _, _, rfl, rfl, _, _, rfl, rfl, ⟨by decide, by decide⟩, ?_⟩
    have hm : ((lo : Int) + (hi : Int) + 1) / 2 = (((lo + hi + 1) / 2 : Nat) : Int) := by omega
    have hm1 : lo < (lo + hi + 1) / 2 := by omega
    have hm2 : (lo + hi + 1) / 2 ≤ hi := by omega
    dsimp only
    rw [hm]
    generalize (lo + hi + 1) / 2 = m at hm1 hm2
    refine ⟨_, rfl, _, rfl, _, rfl, _, rfl, by rw [S_len]; exact line_le (by omega), ?_⟩
    rw [cut0]
    refine ⟨_, rfl, by rw [List.length_take]; omega, hA.take m, fun H2 s2 => ⟨_, rfl, ?_⟩⟩
    have hbm := hb m (by omega)
    cases hbe : K86.beginsF (l.take m) with
    | true =>
      rw [hbe] at hbm
      have : m ≤ o := hbm.mp rfl
      refine iteT ⟨_, rfl, hi - m, by omega, m, hi, some (.int m), this, h2, h3, rfl, sm.trans s2, rfl⟩
    | false =>
      rw [hbe] at hbm
      have : ¬ m ≤ o := fun z => Bool.false_ne_true (hbm.mpr z)
      refine iteF ⟨_, rfl, _, _, rfl, rfl, m - 1 - lo, by omega, lo, m - 1, some (.int m), h1, by omega, by omega, ?_, sm.trans s2, rfl⟩
      rw [show ((m - 1 : Nat) : Int) = (m : Int) - 1 from by omega]
      rfl
end
end W86

-- W86j
set_option Elab.async false
set_option linter.all false
set_option maxRecDepth 100000
set_option maxHeartbeats 4000000
namespace W86
open PySem L2 PySem.Spec PyProof.Rows

/-! ### the pen -/
theorem dget_of {H : Hp} {a : Addr} {kvs : List (Key × V)} {k : Key} {v : V} (e : H a = some (.dK kvs)) (hv : valV kvs k = some v) : DGet H a (kV k) (some v) := by
  rw [← hv]
  exact DGet.k e
theorem put_len {kvs : List (Key × V)} {k : Key} {v y : V} (h : valV kvs k = some y) : (putK kvs k v).length = kvs.length := by
  have e : (kvs.any fun kv => decide (kv.1 = k)) = true := by rw [valV_any, h]; rfl
  unfold putK
  rw [if_pos e, List.length_map]
abbrev kC : Key := Sum.inr "cells"
abbrev kI : Key := Sum.inr "index"
abbrev kR : Key := Sum.inr "rest"
theorem kCI : ¬ kC = kI := by decide +kernel
theorem kCR : ¬ kC = kR := by decide +kernel
theorem kIR : ¬ kI = kR := by decide +kernel
/-- a pen at q that has drawn at most n cells -/
def PenAt (H : Hp) (q c : Addr) (n : Nat) : Prop := ∃ (kvs : List (Key × V)) (ns : List Int) (i : Nat) (r : Int), H q = some (.dK kvs) ∧ valV kvs kC = some (.ref c) ∧ valV kvs kI = some (.int i) ∧ valV kvs kR = some (.int r) ∧ kvs.length ≤ 3 ∧
  H c = some (.lst (ns.map V.int)) ∧ ns.length ≤ 63 ∧ i ≤ n
/-- all but q stays -/
def But (q : Addr) (H H' : Hp) : Prop := ∀ b o, b ≠ q → H b = some o → H' b = some o
theorem But.refl (q : Addr) (H : Hp) : But q H H := fun _ _ _ h => h
theorem But.trans {q : Addr} {H H1 H2 : Hp} (a : But q H H1) (b : But q H1 H2) : But q H H2 := fun c o n h => b c o n (a c o n h)
theorem But.of {q : Addr} {H H' : Hp} (s : Same H H') : But q H H' := fun b o _ h => s b o h
theorem But.upd {q : Addr} {H : Hp} {o : HO} : But q H (upd H q o) := fun b u n h => by
  rw [upd_ne n]
  exact h
theorem PenAt.mono {H : Hp} {q c : Addr} {n m : Nat} (h : PenAt H q c n) (l : n ≤ m) : PenAt H q c m := by
  obtain ⟨kvs, ns, i, r, h1, h2, h3, h4, h5, h6, h7, h8⟩ := h
  exact ⟨kvs, ns, i, r, h1, h2, h3, h4, h5, h6, h7, Nat.le_trans h8 l⟩
theorem PenAt.same {H H' : Hp} {q c : Addr} {n : Nat} (h : PenAt H q c n) (s : Same H H') : PenAt H' q c n := by
  obtain ⟨kvs, ns, i, r, h1, h2, h3, h4, h5, h6, h7, h8⟩ := h
  exact ⟨kvs, ns, i, r, s _ _ h1, h2, h3, h4, h5, s _ _ h6, h7, h8⟩
theorem PenAt.there {H : Hp} {q c : Addr} {n : Nat} (h : PenAt H q c n) : ∃ kvs, H q = some (.dK kvs) := by
  obtain ⟨kvs, _, _, _, h1, _⟩ := h
  exact ⟨kvs, h1⟩
theorem PenAt.cells {H : Hp} {q c : Addr} {n : Nat} (h : PenAt H q c n) : ∃ ns : List Int, H c = some (.lst (ns.map V.int)) := by
  obtain ⟨_, ns, _, _, _, _, _, _, _, h6, _⟩ := h
  exact ⟨ns, h6⟩
theorem PenAt.ne {H : Hp} {q c b : Addr} {n : Nat} (h : PenAt H q c n) (e : H b = none) : b ≠ q ∧ b ≠ c := by
  obtain ⟨kvs, h1⟩ := h.there
  obtain ⟨ns, h2⟩ := h.cells
  exact ⟨(ne_of_none h1 e).symm, (ne_of_none h2 e).symm⟩
/-- another object changes -/
theorem PenAt.upd {H : Hp} {q c b : Addr} {n : Nat} {o : HO} (h : PenAt H q c n) (ne : b ≠ q ∧ b ≠ c) : PenAt (upd H b o) q c n := by
  obtain ⟨kvs, ns, i, r, h1, h2, h3, h4, h5, h6, h7, h8⟩ := h
  exact ⟨kvs, ns, i, r, by rw [upd_ne (Ne.symm ne.1)]; exact h1, h2, h3, h4, h5, by rw [upd_ne (Ne.symm ne.2)]; exact h6, h7, h8⟩
theorem dp_ints {K : PySem.W.Frag} {H : Hp} : ∀ ns : List Int, DpAll K H (ns.map V.int) (ns.map PyData.int)
  | [] => .nil
  | n :: ns => .cons (.int n) (dp_ints ns)
theorem canLay_ints : ∀ ns : List Int, PyData.canLayAll0 (ns.map PyData.int) = true
  | [] => rfl
  | n :: ns => by
    show (PyData.canLay0 (.int n) && PyData.canLayAll0 (ns.map PyData.int)) = true
    rw [canLay_ints ns, Bool.and_true]
    simp [PyData.canLay0]
theorem depth_ints : ∀ ns : List Int, PyData.depthAll (ns.map PyData.int) = 0
  | [] => rfl
  | n :: ns => by
    show max (PyData.depth (.int n)) (PyData.depthAll (ns.map PyData.int)) = 0
    rw [depth_ints ns]
    rfl
theorem shaped_ints (ns : List Int) : SeqAt.shaped (.list (ns.map PyData.int)) = true := by
  unfold SeqAt.shaped
  have e1 : PyData.canLay0 (.list (ns.map PyData.int)) = true := by
    have := canLay_ints ns
    simpa [PyData.canLay0] using this
  have e2 : PyData.depth (.list (ns.map PyData.int)) = 1 := by
    show PyData.depthAll (ns.map PyData.int) + 1 = 1
    rw [depth_ints]
  rw [e1, e2]
  rfl
theorem eqv_ints (ns : List Int) : PyData.eqv (.list (ns.map PyData.int)) (.list []) = decide (ns = []) := by
  cases ns with
  | nil => rfl
  | cons p ps => rfl

section
variable {P : Program} {w : World} {K : PySem.W.Frag} {mg : Str → Option Value} {base : Heap}
/-! ### _law_draw -/
def spDr : Sp := fun vs H Q _ => ∃ (q g : Addr) (c : Int) (n : Nat), vs = [.ref q, .int c] ∧ 0 < c ∧ c ≤ 10 ^ 18 ∧ n ≤ 1000000 ∧ PenAt H q g n ∧ ∀ (x : Int) (H' : Hp), 0 ≤ x → x < c → PenAt H' q g (n + 1) → But q H H' → Q (.int x) H'
theorem scDr : FnScope ["_law_pen_here", "_law_count", "_law_digit", "_law_index", "_law_cell", "_law_mixed"] ["_law_pen_here", "_law_count"] (defScope (st 16)) := ⟨rfl, rfl, rfl, by decide +kernel, rfl, by decide +kernel, by decide +kernel⟩
theorem ok_dr {f : Addr} {fd : FuncData} (F : Fun K "_law_draw" "_law_draw" (st 16) f fd) (B : Bl mg) : FnOk P w K mg base L2.CX0 1 f fd ["_law_pen_here", "_law_count"] spDr := by
  refine F.ok scDr (fun vs H Q E h => ?_) (fun cdv A outer s H vs Q E hr h => ?_)
  · obtain ⟨q, g, c, n, rfl, _⟩ := h
    rfl
  · obtain ⟨q, g, c, n, rfl, hc0, hc1, hn, hP, k⟩ := h
    have hu := hu_of hr
    refine ⟨_, (pss_cons (ps_if (pt_cmpR op_gt (pe_dget hu (pv 0) pe_str (fun _ _ => rfl)) pe_int (nomark _)) (pss_cons (ps_set (i := 2) scDr.nd rfl (Or.inl rfl) (pe_op op_mod (pe_dget hu (pv 0) pe_str (fun _ _ => rfl)) (pv 1)))
      (pss_cons (ps_dput hu (pv 0) pe_str (pe_op op_fdivW (pe_dget hu (pv 0) pe_str (fun _ _ => rfl)) (pv 1)) rfl)
      (pss_one (ps_ret (pv 2))))) pss_nil)
      (pss_cons (ps_set (i := 3) scDr.nd rfl (Or.inl rfl) (pe_dget hu (pv 0) pe_str (fun _ _ => rfl)))
      (pss_cons (ps_dput hu (pv 0) pe_str (pe_op op_add (pv 3) pe_int) rfl)
      (pss_cons (ps_set (i := 4) scDr.nd rfl (Or.inl rfl) (pe_op op_add (pe_op op_mul pe_int (pv 3)) pe_int))
      (C8.pss_cut (ps_if (pt_cmpR (op_neD hr.units) (pe_dget hu (pv 0) pe_str (fun _ _ => rfl)) (pe_lst pa_nil) (nomark _)) (pss_one (ps_set (i := 4) scDr.nd rfl (Or.inl rfl) (pe_ix ix_list (pe_dget hu (pv 0) pe_str (fun _ _ => rfl)) (pe_op op_mod (pv 3) (pe_callB call_len_seq (by rfl) B.len PySem.boot_len (pa_cons (pe_dget hu (pv 0) pe_str (fun _ _ => rfl)) pa_nil))) (fun _ _ => rfl)))) pss_nil)
      (C8.pss_cut (ps_if (PW.pt (pw_and (pt_cmpR op_lt (pv 3) (pe_callB call_len_seq (by rfl) B.len PySem.boot_len (pa_cons (pe_dget hu (pv 0) pe_str (fun _ _ => rfl)) pa_nil)) (nomark _)) (pw_and1 (pt_cmpR op_ge (pe_callB call_abs (by rfl) B.abs (by decide +kernel) (pa_cons (pv 4) pa_nil)) (pe_op op_pow pe_int pe_int) (nomark _))))) (pss_cons (ps_dput hu (pv 0) pe_str (pe_op op_fdivW (pe_op op_sub (pe_callB call_abs (by rfl) B.abs (by decide +kernel) (pa_cons (pv 4) pa_nil)) (pe_op op_pow pe_int pe_int)) (pv 1)) rfl)
      (pss_one (ps_ret (pe_op op_mod (pe_op op_sub (pe_callB call_abs (by rfl) B.abs (by decide +kernel) (pa_cons (pv 4) pa_nil)) (pe_op op_pow pe_int pe_int)) (pv 1))))) pss_nil)
      (pss_cons (ps_set (i := 5) scDr.nd rfl (Or.inl rfl) (pe_op op_add (pe_op op_mul (pe_op op_mod (pv 4) pe_int) pe_int) (pe_op op_mul (pe_op op_mul pe_int (pv 3)) (pv 3))))
      (pss_cons (ps_set (i := 5) scDr.nd rfl (Or.inl rfl) (pe_op op_mod (pe_op op_add (pe_op op_add (pv 5) (pe_op op_mul pe_int (pv 3))) pe_int) pe_int))
      (pss_cons (ps_set (i := 5) scDr.nd rfl (Or.inl rfl) (pe_op op_mod (pe_op op_add (pe_op op_add (pe_op op_add (pe_op op_mul (pv 5) (pv 5)) (pe_op op_mul pe_int (pv 5))) (pe_op op_mul pe_int (pv 3))) pe_int) pe_int))
      (pss_one (ps_ret (pe_op op_mod (pe_op op_fdiv (pe_op op_mod (pe_op op_mul (pv 5) (pe_op op_add (pv 5) pe_int)) pe_int) pe_int) (pv 1))))))))))))), ?_⟩
    obtain ⟨kvs, ns, i, r, h1, h2, h3, h4, h5, h6, h7, h8⟩ := hP
    have nqc : g ≠ q := ne_of h6 h1 (by intro z; cases z)
    have hW : CDivW 0 c := wide_div (b := 64) hc0 (by omega) (by decide) (by decide)
    have md : ∀ z : Int, 0 ≤ z % c ∧ z % c < c := fun z => ⟨Int.emod_nonneg _ (by omega), Int.emod_lt_of_pos _ hc0⟩
    -- if pen['rest'] > 0
    refine ⟨_, rfl, q, _, rfl, dget_of (k := kR) h1 h4, _, _, rfl, rfl, _, rfl, ?_⟩
    by_cases hr0 : (0 : Int) < r
    case pos =>
      rw [decide_eq_true hr0]
      refine iteT ⟨_, rfl, q, _, rfl, dget_of (k := kR) h1 h4, _, rfl, _, _, rfl, rfl, hc0, ?_⟩
      refine ⟨_, rfl, q, _, rfl, dget_of (k := kR) h1 h4, _, rfl, _, _, rfl, rfl, hW, _, rfl, q, _, rfl, DPut.k (k := kR) h1 (small1000 (by omega)), _, rfl, ?_⟩
      refine k _ _ (md r).1 (md r).2 ⟨_, ns, i, r / c, upd_same, ?_, ?_, ?_, ?_, ?_, h7, by omega⟩ But.upd
      · rw [valV_put, if_neg kCR, h2]
      · rw [valV_put, if_neg kIR, h3]
      · rw [valV_put, if_pos rfl]
      · rw [put_len h4]
        exact h5
      · rw [upd_ne nqc]
        exact h6
    rw [decide_eq_false hr0]
    refine iteF ?_
    -- index = pen['index']; pen['index'] = index + 1
    refine ⟨_, rfl, q, _, rfl, dget_of (k := kI) h1 h3, ?_⟩
    refine ⟨_, rfl, _, _, rfl, rfl, _, rfl, q, _, rfl, DPut.k (k := kI) h1 (small1000 (by omega)), ?_⟩
    have g1 : (upd H q (.dK (putK kvs kI (.int ((i : Int) + 1))))) q = some (.dK (putK kvs kI (.int ((i : Int) + 1)))) := upd_same
    have g2 : valV (putK kvs kI (.int ((i : Int) + 1))) kC = some (.ref g) := by rw [valV_put, if_neg kCI, h2]
    have g3 : valV (putK kvs kI (.int ((i : Int) + 1))) kI = some (.int ((i + 1 : Nat) : Int)) := by rw [valV_put, if_pos rfl]; rfl
    have g4 : valV (putK kvs kI (.int ((i : Int) + 1))) kR = some (.int r) := by rw [valV_put, if_neg (fun z => kIR z.symm), h4]
    have g5 : (putK kvs kI (.int ((i : Int) + 1))).length ≤ 3 := by rw [put_len h3]; exact h5
    have g6 : (upd H q (.dK (putK kvs kI (.int ((i : Int) + 1))))) g = some (.lst (ns.map V.int)) := by rw [upd_ne nqc]; exact h6
    have bt : But q H (upd H q (.dK (putK kvs kI (.int ((i : Int) + 1))))) := But.upd
    generalize putK kvs kI (.int ((i : Int) + 1)) = kvs1 at g1 g2 g3 g4 g5 g6 bt ⊢
    generalize upd H q (.dK kvs1) = H1 at g1 g6 bt ⊢
    -- cell = 53 * index + 19
    refine ⟨_, rfl, _, _, rfl, rfl, .inl ⟨by decide, by decide⟩, _, _, rfl, rfl, ?_⟩
    have hk : ∀ (x : Int) (H' : Hp), 0 ≤ x → x < c → PenAt H' q g (n + 1) → But q H1 H' → Q (.int x) H' := fun x H' a1 a2 a3 a4 => k x H' a1 a2 a3 (bt.trans a4)
    -- if pen['cells'] != []
    refine ⟨fun σ H2 => (∃ z : Int, σ = [some (.ref q), some (.int c), none, some (.int i), some (.int z), none]) ∧ H2 q = some (.dK kvs1) ∧ H2 g = some (.lst (ns.map V.int)) ∧ But q H1 H2, ?_, ?_⟩
    · refine ⟨_, rfl, q, _, rfl, dget_of (k := kC) g1 g2, line_le (by decide), fun D hD => ⟨_, _, .lst (SqL.of (by rw [upd_ne (ne_of_none g6 hD)]; exact g6)) (dp_ints ns), dp_list (ps := []) upd_same, shaped_ints ns, shaped_nil, _, rfl, ?_⟩⟩
      have e1 : (upd H1 D (.lst [])) q = some (.dK kvs1) := by rw [upd_ne (ne_of_none g1 hD)]; exact g1
      have e2 : (upd H1 D (.lst [])) g = some (.lst (ns.map V.int)) := by rw [upd_ne (ne_of_none g6 hD)]; exact g6
      have b2 : But q H1 (upd H1 D (.lst [])) := .of (same_new hD)
      generalize upd H1 D (.lst []) = H2 at e1 e2 b2
      rw [show dS [] = [] from rfl, eqv_ints]
      by_cases h0 : ns = []
      · rw [decide_eq_true h0]
        exact iteF ⟨⟨_, rfl⟩, e1, e2, b2⟩
      · rw [decide_eq_false h0]
        have hl : 0 < ns.length := List.length_pos_iff.mpr h0
        have hj : ((i : Int) % ((ns.map V.int).length : Int)) = ((i % ns.length : Nat) : Int) := by rw [List.length_map]; omega
        have hjl : i % ns.length < ns.length := Nat.mod_lt _ hl
        refine iteT ⟨_, rfl, q, _, rfl, dget_of (k := kC) e1 g2, _, rfl, _, rfl, q, _, rfl, dget_of (k := kC) e1 g2, g, _, rfl, .inl (SqL.of e2), _, _, rfl, rfl, by rw [List.length_map]; omega, g, _, _, .int (ns[i % ns.length]), rfl, rfl, SqL.of e2, ?_, ⟨_, rfl⟩, e1, e2, b2⟩
        rw [hj]
        refine atI_nat ?_
        rw [List.getElem?_map, List.getElem?_eq_getElem hjl]
        rfl
    rintro σ H2 ⟨⟨z, rfl⟩, e1, e2, b2⟩
    have pen2 : PenAt H2 q g (n + 1) := ⟨kvs1, ns, i + 1, r, e1, g2, g3, g4, g5, e2, h7, by omega⟩
    -- if index < len(pen['cells']) and abs(cell) >= 10 ** 18
    refine ⟨fun σ H3 => σ = [some (.ref q), some (.int c), none, some (.int i), some (.int z), none] ∧ H3 = H2, ?_, ?_⟩
    · refine ⟨_, rfl, _, rfl, q, _, rfl, dget_of (k := kC) e1 g2, g, _, rfl, .inl (SqL.of e2), _, _, rfl, rfl, _, rfl, ?_⟩
      rw [List.length_map]
      by_cases hi : i < ns.length
      case neg =>
        rw [decide_eq_false (by omega)]
        exact iteF (iteF ⟨rfl, rfl⟩)
      rw [decide_eq_true (by omega)]
      refine iteT ⟨_, rfl, _, rfl, _, _, rfl, rfl, ⟨by decide, by decide, by decide⟩, _, _, rfl, rfl, _, rfl, ?_⟩
      refine ite2 (fun _ => ?_) (fun _ => ⟨rfl, rfl⟩)
      refine ⟨_, rfl, _, rfl, _, _, rfl, rfl, ⟨by decide, by decide, by decide⟩, _, _, rfl, rfl, _, rfl, _, _, rfl, rfl, hW, _, rfl, q, _, rfl, DPut.k (k := kR) e1 (small1000 (by omega)), ?_⟩
      refine ⟨_, rfl, _, rfl, _, _, rfl, rfl, ⟨by decide, by decide, by decide⟩, _, _, rfl, rfl, _, rfl, _, _, rfl, rfl, hc0, ?_⟩
      refine hk _ _ (md _).1 (md _).2 ⟨_, ns, i + 1, ((if z < 0 then -z else z) - 10 ^ (18 : Int).toNat) / c, upd_same, ?_, ?_, ?_, ?_, ?_, h7, by omega⟩ (b2.trans But.upd)
      · rw [valV_put, if_neg kCR, g2]
      · rw [valV_put, if_neg kIR, g3]
      · rw [valV_put, if_pos rfl]
      · rw [put_len g4]
        exact g5
      · rw [upd_ne nqc]
        exact e2
    rintro σ H3 ⟨rfl, rfl⟩
    -- the mixing
    have b1 : 0 ≤ z % 2147483647 ∧ z % 2147483647 < 2147483647 := ⟨Int.emod_nonneg _ (by decide), Int.emod_lt_of_pos _ (by decide)⟩
    refine ⟨_, rfl, _, _, rfl, rfl, (by show (0 : Int) < 2147483647; decide), _, _, rfl, rfl, .inl ⟨by omega, by omega⟩, _, rfl, _, _, rfl, rfl, .inl ⟨by decide, by decide⟩, _, rfl, _, _, rfl, rfl, .inl ⟨by omega, by omega⟩, _, _, rfl, rfl, ?_⟩
    refine ⟨_, rfl, _, rfl, _, _, rfl, rfl, .inl ⟨by decide, by decide⟩, _, _, rfl, rfl, _, _, rfl, rfl, _, _, rfl, rfl, (by show (0 : Int) < 2147483629; decide), ?_⟩
    dsimp only
    generalize z % 2147483647 * 48271 + 69621 * (i : Int) * (i : Int) = m1
    have b3 : 0 ≤ (m1 + 40014 * (i : Int) + 29) % 2147483629 ∧ (m1 + 40014 * (i : Int) + 29) % 2147483629 < 2147483629 := ⟨Int.emod_nonneg _ (by decide), Int.emod_lt_of_pos _ (by decide)⟩
    generalize (m1 + 40014 * (i : Int) + 29) % 2147483629 = m2 at b3
    refine ⟨_, rfl, _, rfl, _, _, rfl, rfl, .inl ⟨by omega, by omega⟩, _, rfl, _, _, rfl, rfl, .inl ⟨by decide, by decide⟩, _, _, rfl, rfl, _, rfl, _, _, rfl, rfl, .inl ⟨by decide, by decide⟩, _, _, rfl, rfl, _, _, rfl, rfl, _, _, rfl, rfl, (by show (0 : Int) < 2147483587; decide), ?_⟩
    dsimp only
    have b4 : 0 ≤ (m2 * m2 + 16807 * m2 + 3 * (i : Int) + 5) % 2147483587 ∧ (m2 * m2 + 16807 * m2 + 3 * (i : Int) + 5) % 2147483587 < 2147483587 := ⟨Int.emod_nonneg _ (by decide), Int.emod_lt_of_pos _ (by decide)⟩
    generalize (m2 * m2 + 16807 * m2 + 3 * (i : Int) + 5) % 2147483587 = m3 at b4
    refine ⟨_, rfl, _, rfl, _, _, rfl, rfl, _, _, rfl, rfl, .inl ⟨by omega, by omega⟩, _, _, rfl, rfl, (by show (0 : Int) < 2147483579; decide), _, _, rfl, rfl, ⟨by decide, by decide⟩, _, rfl, _, _, rfl, rfl, hc0, ?_⟩
    exact hk _ _ (md _).1 (md _).2 pen2 b2
end
end W86

-- W86k
set_option Elab.async false
set_option linter.all false
set_option maxRecDepth 100000
set_option maxHeartbeats 4000000
namespace W86
open PySem L2 PySem.Spec PyProof.Rows

section
variable {P : Program} {w : World} {K : PySem.W.Frag} {mg : Str → Option Value} {base : Heap}
/-! ### _law_pen -/
def spPn (K : PySem.W.Frag) : Sp := fun vs H Q _ => ∃ (a : Addr) (ns : List Int), vs = [.ref a] ∧ SqL K H a (ns.map V.int) ∧ ns.length ≤ 63 ∧ ∀ (q g : Addr) (H' : Hp), PenAt H' q g 0 → Same H H' → Q (.ref q) H'
theorem scPn : FnScope ["_law_script"] ["_law_script"] (defScope (st 15)) := ⟨rfl, rfl, rfl, by decide +kernel, rfl, by decide +kernel, by decide +kernel⟩
theorem ok_pn {f : Addr} {fd : FuncData} (F : Fun K "_law_pen" "_law_pen" (st 15) f fd) (B : Bl mg) : FnOk P w K mg base L2.CX0 1 f fd ["_law_script"] (spPn K) := by
  refine F.ok scPn (fun vs H Q E h => ?_) (fun cdv A outer s H vs Q E hr h => ?_)
  · obtain ⟨a, ns, rfl, _⟩ := h
    rfl
  · obtain ⟨a, ns, rfl, hS, hl, k⟩ := h
    refine ⟨_, (pss_one (ps_ret (pe_disp (pps_cons pe_str (pe_callTy call_list_of (by rfl) B.list (by decide +kernel) (pa_cons (pe_slice sl_list (pv 0) po_none (po_some pe_int)) pa_nil)) (pps_cons pe_str pe_int (pps_cons pe_str pe_int pps_nil))) (by rfl) (by rfl) (fun z => by cases z) (by decide)))), ?_⟩
    intro q hq
    refine ⟨_, rfl, _, rfl, a, _, rfl, (same_new hq).seq hS, fun L hL => ?_⟩
    have ec : cutV (ns.map V.int) none (some 63) = ns.map V.int := by
      unfold cutV
      rw [HT.sIx_none, show (63 : Int) = ((63 : Nat) : Int) from rfl, HT.sIx_nat, List.drop_zero, List.length_map]
      exact List.take_of_length_le (by rw [List.length_map]; omega)
    rw [ec]
    refine ⟨L, _, rfl, .inl (SqL.of upd_same), fun c hc => ?_⟩
    have e1 : (upd (upd (upd H q (.dK [])) L (.lst (ns.map V.int))) c (.lst (ns.map V.int))) q = some (.dK []) := by
      have e0 : (upd (upd H q (.dK [])) L (.lst (ns.map V.int))) q = some (.dK []) := by rw [upd_ne (ne_of_none upd_same hL), upd_same]
      rw [upd_ne (ne_of_none e0 hc)]
      exact e0
    have e2 : (upd (upd (upd H q (.dK [])) L (.lst (ns.map V.int))) c (.lst (ns.map V.int))) c = some (.lst (ns.map V.int)) := upd_same
    have sm : Same H (upd (upd (upd H q (.dK [])) L (.lst (ns.map V.int))) c (.lst (ns.map V.int))) := (same_new hq).trans ((same_new hL).trans (same_new hc))
    generalize upd (upd (upd H q (.dK [])) L (.lst (ns.map V.int))) c (.lst (ns.map V.int)) = H1 at e1 e2 sm
    refine ⟨e1, [(kC, .ref c), (kI, .int 0), (kR, .int 0)], rfl, by show 3 ≤ 15; decide, ?_⟩
    have hm : mergeK [] [(kC, V.ref c), (kI, V.int 0), (kR, V.int 0)] = putK (putK (putK [] kC (.ref c)) kI (.int 0)) kR (.int 0) := rfl
    have ncq : c ≠ q := ne_of e2 e1 (by intro z; cases z)
    refine k q c _ ⟨_, ns, 0, 0, upd_same, ?_, ?_, ?_, ?_, ?_, hl, Nat.le_refl _⟩ ?_
    · rw [hm, valV_put, if_neg kCR, valV_put, if_neg kCI, valV_put, if_pos rfl]
    · rw [hm, valV_put, if_neg kIR, valV_put, if_pos rfl]
      rfl
    · rw [hm, valV_put, if_pos rfl]
    · have le : ∀ (kvs : List (Key × V)) (k : Key) (v : V), (putK kvs k v).length ≤ kvs.length + 1 := fun kvs k v => by
        unfold putK
        split
        · rw [List.length_map]
          exact Nat.le_succ _
        · rw [List.length_append]
          exact Nat.le_refl _
      rw [hm]
      have a1 := le [] kC (V.ref c)
      have a2 := le (putK [] kC (.ref c)) kI (.int 0)
      have a3 := le (putK (putK [] kC (.ref c)) kI (.int 0)) kR (.int 0)
      simp only [List.length_nil] at a1
      omega
    · rw [upd_ne ncq]
      exact e2
    · intro b o z
      have n1 : b ≠ q := ne_of_none z hq
      rw [upd_ne n1]
      exact sm b o z
/-! ### _law_pick -/
def spPk : Sp := fun vs H Q _ => ∃ (q g a : Addr) (xs : List V) (n : Nat), vs = [.ref q, .ref a] ∧ n ≤ 1000000 ∧ PenAt H q g n ∧ H a = some (.lst xs) ∧ xs ≠ [] ∧ xs.length ≤ 1000 ∧ ∀ (x : V) (H' : Hp), x ∈ xs → PenAt H' q g (n + 1) → But q H H' → Q x H'
theorem scPk : FnScope ["_law_pen_here", "_law_options"] ["_law_pen_here", "_law_options"] (defScope (st 17)) := ⟨rfl, rfl, rfl, by decide +kernel, rfl, by decide +kernel, by decide +kernel⟩
theorem ok_pk {f : Addr} {fd : FuncData} (F : Fun K "_law_pick" "_law_pick" (st 17) f fd) (B : Bl mg) (cDr : Cl P w K mg base L2.CX0 1 "_law_draw" ["_law_pen_here", "_law_count"] spDr) : FnOk P w K mg base L2.CX0 2 f fd ["_law_pen_here", "_law_options"] spPk := by
  refine F.ok scPk (fun vs H Q E h => ?_) (fun cdv A outer s H vs Q E hr h => ?_)
  · obtain ⟨q, g, a, xs, n, rfl, _⟩ := h
    rfl
  · obtain ⟨q, g, a, xs, n, rfl, hn, hP, ha, h0, hl, k⟩ := h
    refine ⟨_, (pss_one (ps_ret (pe_ix ix_list (pv 1) (by exact (pe_cl cDr hr (by decide) rfl pass0 (by exact (pa_cons (pv 0) (pa_cons (pe_callB call_len_seq (by rfl) B.len PySem.boot_len (pa_cons (pv 1) pa_nil)) pa_nil))))) (fun _ _ => rfl)))), ?_⟩
    have hx : 0 < xs.length := List.length_pos_iff.mpr h0
    refine ⟨_, rfl, _, rfl, _, rfl, a, _, rfl, .inl (SqL.of ha), q, g, _, n, rfl, by omega, by omega, hn, hP, fun x H' x0 x1 p b => ?_⟩
    obtain ⟨kvs, hq⟩ := hP.there
    have ha' : H' a = some (.lst xs) := b a _ (ne_of ha hq (by intro z; cases z)) ha
    obtain ⟨j, rfl⟩ := Int.eq_ofNat_of_zero_le x0
    have hj : j < xs.length := by omega
    exact ⟨a, _, _, xs[j], rfl, rfl, SqL.of ha', atI_nat (List.getElem?_eq_getElem hj), k _ _ (List.getElem_mem hj) p b⟩
/-! ### _law_drawn_letters -/
def spDL : Sp := fun vs H Q _ => ∃ (q g : Addr) (c n : Nat), vs = [.ref q, .int c] ∧ c ≤ 8 ∧ n ≤ 900000 ∧ PenAt H q g n ∧ ∀ (z : List Nat) (H' : Hp), z.length ≤ 8 → Asc z → PenAt H' q g (n + 2) → But q H H' → Q (.str (S z)) H'
theorem scDL : FnScope ["_law_pen_here", "_law_count", "_law_first", "_law_step", "_law_k"] ["_law_pen_here", "_law_count"] (defScope (st 18)) := ⟨rfl, rfl, rfl, by decide +kernel, rfl, by decide +kernel, by decide +kernel⟩
theorem join_one : ∀ cs : List Nat, TL.joinL [] ((cs.map fun c => S [c]).map TL.tl) = cs
  | [] => rfl
  | [c] => rfl
  | c :: d :: r => by
    have ih := join_one (d :: r)
    show [c] ++ ([] ++ TL.joinL [] (((d :: r).map fun c => S [c]).map TL.tl)) = _
    rw [ih]
    rfl
theorem join_empty (cs : List Nat) : Txt.join (Str.ofString "") (cs.map fun c => S [c]) = S cs := by
  refine TL.ext_tl ?_
  rw [TL.join_eq, TL.tl_join, empt]
  exact join_one cs
theorem ok_dl {f : Addr} {fd : FuncData} (F : Fun K "_law_drawn_letters" "_law_drawn_letters" (st 18) f fd) (B : Bl mg) (cDr : Cl P w K mg base L2.CX0 1 "_law_draw" ["_law_pen_here", "_law_count"] spDr)
    (cPk : Cl P w K mg base L2.CX0 2 "_law_pick" ["_law_pen_here", "_law_options"] spPk) : FnOk P w K mg base L2.CX0 3 f fd ["_law_pen_here", "_law_count"] spDL := by
  refine F.ok scDL (fun vs H Q E h => ?_) (fun cdv A outer s H vs Q E hr h => ?_)
  · obtain ⟨q, g, c, n, rfl, _⟩ := h
    rfl
  · obtain ⟨q, g, c, n, rfl, hc, hn, hP, k⟩ := h
    refine ⟨_, (pss_cons (ps_asg (pe_tup (pa_cons (by exact (pe_cl cDr hr (by decide) rfl pass0 (by exact (pa_cons (pv 0) (pa_cons pe_int pa_nil))))) (pa_cons (by exact (pe_cl cPk hr (by decide) rfl pass0 (by exact (pa_cons (pv 0) (pa_cons (pe_lst (pa_cons pe_int (pa_cons pe_int (pa_cons pe_int (pa_cons pe_int (pa_cons pe_int (pa_cons pe_int (pa_cons pe_int (pa_cons pe_int (pa_cons pe_int (pa_cons pe_int (pa_cons pe_int (pa_cons pe_int pa_nil))))))))))))) pa_nil))))) pa_nil))) (pg_tup rfl (pgs_cons (pg_name (i := 2) scDL.nd rfl (Or.inr rfl)) (pgs_cons (pg_name (i := 3) scDL.nd rfl (Or.inr rfl)) pgs_nil))))
      (pss_one (ps_ret (pe_join pe_str (pe_lc (own := [("_law_k", 4)]) (g := gName 4) rfl scDL.nd (pi_range1 rfl B.range (pa_cons (pv 1) pa_nil)) (blkOk_by (own := [("_law_k", 4)]) (N := ["_law_pen_here", "_law_count", "_law_first", "_law_step", "_law_k"]) (sc := defScope (st 18)) (by decide +kernel)) (fun _ _ _ _ _ => pg_name (i := 4) scDL.nd rfl (Or.inl rfl)) (fun _ _ _ _ _ => pts_nil) (fun _ _ _ _ _ => (pe_ix ix_str pe_str (pe_op op_mod (pe_op op_add (pv 2) (pe_op op_mul (pv 3) (pv 4))) pe_int) (fun _ _ => rfl)))))))), ?_⟩
    refine ⟨_, rfl, q, g, _, n, rfl, by decide, by decide, by omega, hP, fun x H1 x0 x1 p1 b1 => ?_⟩
    refine ⟨_, rfl, line_le (show 12 ≤ 5000 by decide), fun L hL => ?_⟩
    refine ⟨q, g, L, _, n + 1, rfl, by omega, p1.same (same_new hL), upd_same, by simp, by show 12 ≤ 1000; decide, fun y H2 hy p2 b2 => ?_⟩
    obtain ⟨stp, rfl, hs0, hs1⟩ : ∃ stp : Int, y = .int stp ∧ 0 ≤ stp ∧ stp ≤ 25 := by
      simp only [List.mem_cons, List.not_mem_nil, or_false] at hy
      rcases hy with rfl | rfl | rfl | rfl | rfl | rfl | rfl | rfl | rfl | rfl | rfl | rfl <;> exact ⟨_, rfl, by decide, by decide⟩
    have b12 : But q H H2 := b1.trans ((But.of (same_new hL)).trans b2)
    refine ⟨line_le (show 2 ≤ 5000 by decide), fun T hT => ⟨T, _, rfl, SqT.of upd_same, rfl, _, _, rfl, _, _, rfl, rfl, ?_⟩⟩
    have p3 : PenAt (upd H2 T (.tup [.int x, .int stp])) q g (n + 2) := p2.same (same_new hT)
    have b3 : But q H (upd H2 T (.tup [.int x, .int stp])) := b12.trans (.of (same_new hT))
    generalize upd H2 T (.tup [.int x, .int stp]) = H3 at p3 b3
    -- the comprehension
    refine ⟨⟨_, rfl⟩, ?_⟩
    refine ⟨_, rfl, _, rfl, by omega, by omega, fun D hD => lc_range (lo := 0) (n := ((c : Nat) : Int).toNat) (fun i H' => ∃ cs : List Nat, cs.length = i ∧ Asc cs ∧ H' = upd H3 D (.lst ((cs.map fun c => S [c]).map V.str))) ⟨[], rfl, fun c hc => (by cases hc), rfl⟩
      (fun i Hc hi e => ?_) (fun Hd e => ?_)⟩
    · obtain ⟨cs, hcs, ha, rfl⟩ := e
      refine ⟨rfl, ?_⟩
      unfold tYes
      have hm : 0 ≤ (x + stp * (0 + (i : Int))) % 26 ∧ (x + stp * (0 + (i : Int))) % 26 < 26 := ⟨Int.emod_nonneg _ (by decide), Int.emod_lt_of_pos _ (by decide)⟩
      obtain ⟨j, hj⟩ := Int.eq_ofNat_of_zero_le hm.1
      have hj26 : j < alph.length := by rw [show alph.length = 26 from by decide]; omega
      have halp : (Str.ofString "abcdefghijklmnopqrstuvwxyz").cps.toList = alph := by rw [alph_eq]
      refine iteT ⟨_, rfl, _, rfl, _, rfl, _, _, rfl, rfl, .inl ⟨by omega, by omega⟩, _, _, rfl, rfl, _, _, rfl, rfl, (by show (0 : Int) < 26; decide), _, _, alph[j], rfl, rfl, by decide +kernel, ?_, _, upd_same, ?_, cs ++ [alph[j]], ?_, ?_, ?_⟩
      · rw [halp]
        show atI alph ((x + stp * (0 + (i : Int))) % 26) = _
        rw [hj]
        exact atI_nat (List.getElem?_eq_getElem hj26)
      · rw [List.length_map, List.length_map, hcs]
        exact small1000 (by omega)
      · rw [List.length_append, hcs]
        rfl
      · intro y hy
        rcases List.mem_append.mp hy with z | z
        · exact ha y z
        · rw [List.mem_singleton.mp z]
          have := List.getElem_mem hj26
          have hl : K86.letr alph[j] = true := by
            rw [← alph_in]
            exact decide_eq_true this
          unfold K86.letr at hl
          rw [Bool.and_eq_true, decide_eq_true_eq, decide_eq_true_eq] at hl
          omega
      · rw [upd_upd, List.map_append, List.map_append]
        rfl
    obtain ⟨cs, hcs, ha, rfl⟩ := e
    refine ⟨_, D, cs.map fun c => S [c], rfl, rfl, .inl (SqL.of upd_same), ?_, ?_⟩
    · have e0 : (Str.ofString "").length = 0 := by decide +kernel
      have e1 : ∀ l : List Nat, ((l.map fun c => S [c]).map (·.length)).sum = l.length := fun l => by
        induction l with
        | nil => rfl
        | cons a r ih =>
          show (S [a]).length + ((r.map fun c => S [c]).map (·.length)).sum = r.length + 1
          rw [ih, S_len]
          simp only [List.length_cons, List.length_nil]
          omega
      rw [e0, e1, hcs]
      omega
    · rw [join_empty]
      exact k cs _ (by omega) ha (p3.same (same_new hD)) (b3.trans (.of (same_new hD)))
/-! ### _law_drawn_text -/
def spDT : Sp := fun vs H Q _ => ∃ (q g : Addr) (c n : Nat), vs = [.ref q, .int c] ∧ c ≤ 5 ∧ n ≤ 900000 ∧ PenAt H q g n ∧ ∀ (t : Addr) (ns : List Nat) (H' : Hp), (∀ x ∈ ns, x ≤ 999999) → ns.length ≤ 5 → H' t = some (.tup (iv ns)) → PenAt H' q g (n + 9) → But q H H' → Q (.ref t) H'
theorem scDT : FnScope ["_law_pen_here", "_law_size", "_law_most", "_law_text", "_law_k"] ["_law_pen_here", "_law_size"] (defScope (st 19)) := ⟨rfl, rfl, rfl, by decide +kernel, rfl, by decide +kernel, by decide +kernel⟩
theorem ok_dt {f : Addr} {fd : FuncData} (F : Fun K "_law_drawn_text" "_law_drawn_text" (st 19) f fd) (B : Bl mg) (cDr : Cl P w K mg base L2.CX0 1 "_law_draw" ["_law_pen_here", "_law_count"] spDr)
    (cPk : Cl P w K mg base L2.CX0 2 "_law_pick" ["_law_pen_here", "_law_options"] spPk) : FnOk P w K mg base L2.CX0 3 f fd ["_law_pen_here", "_law_size"] spDT := by
  refine F.ok scDT (fun vs H Q E h => ?_) (fun cdv A outer s H vs Q E hr h => ?_)
  · obtain ⟨q, g, c, n, rfl, _⟩ := h
    rfl
  · obtain ⟨q, g, c, n, rfl, hc, hn, hP, k⟩ := h
    refine ⟨_, (pss_cons (ps_set (i := 2) scDT.nd rfl (Or.inr rfl) (by exact (pe_cl cPk hr (by decide) rfl pass0 (by exact (pa_cons (pv 0) (pa_cons (pe_lst (pa_cons pe_int (pa_cons pe_int (pa_cons pe_int (pa_cons pe_int (pa_cons pe_int pa_nil)))))) pa_nil))))))
      (pss_cons (ps_setLc (i := 3) (own := [("_law_k", 4)]) (g := gName 4) rfl scDT.nd rfl rfl (sw_true rfl rfl rfl (by decide +kernel)) (pi_range1 rfl B.range (pa_cons (pv 1) pa_nil)) (blkOk_by (own := [("_law_k", 4)]) (N := ["_law_pen_here", "_law_size", "_law_most", "_law_text", "_law_k"]) (sc := defScope (st 19)) (by decide +kernel)) (fun _ _ _ _ _ => pg_name (i := 4) scDT.nd rfl (Or.inl rfl)) (fun _ _ _ _ _ => pts_nil) (fun _ _ _ _ _ => (by exact (pe_cl cDr hr (by decide) rfl pass0 (by exact (pa_cons (pv 0) (pa_cons (pv 2) pa_nil)))))))
      (C8.pss_cut (ps_if (PW.pt (pw_and (pt_cmpR op_gt (pv 1) pe_int (nomark _)) (pw_and1 (pt_cmpR op_eq (by exact (pe_cl cDr hr (by decide) rfl pass0 (by exact (pa_cons (pv 0) (pa_cons pe_int pa_nil))))) pe_int (nomark _))))) (pss_one (ps_asg (pe_op op_sub pe_int (by exact (pe_cl cDr hr (by decide) rfl pass0 (by exact (pa_cons (pv 0) (pa_cons pe_int pa_nil)))))) (pg_sub (pv 3) (by exact (pe_cl cDr hr (by decide) rfl pass0 (by exact (pa_cons (pv 0) (pa_cons (pv 1) pa_nil))))) set_list))) pss_nil)
      (pss_one (ps_ret (pe_callTy call_tuple_of (by rfl) B.tuple (by decide +kernel) (pa_cons (pv 3) pa_nil))))))), ?_⟩
    refine ⟨_, rfl, line_le (show 5 ≤ 5000 by decide), fun L hL => ?_⟩
    refine ⟨q, g, L, _, n, rfl, by omega, hP.same (same_new hL), upd_same, by simp, by show 5 ≤ 1000; decide, fun y H2 hy p2 b2 => ?_⟩
    obtain ⟨mst, rfl, hs0, hs1⟩ : ∃ mst : Int, y = .int mst ∧ 0 < mst ∧ mst ≤ 1000000 := by
      simp only [List.mem_cons, List.not_mem_nil, or_false] at hy
      rcases hy with rfl | rfl | rfl | rfl | rfl <;> exact ⟨_, rfl, by decide, by decide⟩
    have b12 : But q H H2 := (But.of (same_new hL)).trans b2
    refine ⟨_, rfl, _, rfl, by omega, by omega, fun D hD => lc_range (lo := 0) (n := ((c : Nat) : Int).toNat) (fun i H' => ∃ ns : List Nat, ns.length = i ∧ (∀ x ∈ ns, x ≤ 999999) ∧ H' D = some (.lst (iv ns)) ∧ PenAt H' q g (n + 1 + i) ∧ But q H2 H')
      ⟨[], rfl, fun c hc => (by cases hc), upd_same, p2.same (same_new hD), .of (same_new hD)⟩ (fun i Hc hi e => ?_) (fun Hd e => ?_)⟩
    · obtain ⟨ns, hl, hb, hDc, p, b⟩ := e
      refine ⟨rfl, ?_⟩
      unfold tYes
      refine iteT ⟨_, rfl, _, rfl, q, g, mst, n + 1 + i, rfl, hs0, by omega, by omega, p, fun x H' x0 x1 p' b' => ?_⟩
      obtain ⟨j, rfl⟩ := Int.eq_ofNat_of_zero_le x0
      have nD := p2.ne hD
      have hD' : H' D = some (.lst (iv ns)) := b' D _ nD.1 hDc
      refine ⟨_, hD', ?_, ns ++ [j], ?_, ?_, ?_, ?_, ?_⟩
      · rw [List.length_map, hl]
        exact small1000 (by omega)
      · rw [List.length_append, hl]
        rfl
      · intro y hy
        rcases List.mem_append.mp hy with z | z
        · exact hb y z
        · rw [List.mem_singleton.mp z]
          omega
      · rw [upd_same, iv, iv, List.map_append]
        rfl
      · exact p'.upd nD
      · intro y o z e
        rw [upd_ne (ne_of_none e hD)]
        exact b' y o z (b y o z e)
    obtain ⟨ns, hl, hb, hDd, p, b⟩ := e
    have nD := p2.ne hD
    have bd : But q H Hd := b12.trans b
    have hlc : ns.length ≤ 5 := by omega
    have pd : PenAt Hd q g (n + 6) := p.mono (by omega)
    have hDH : H D = none := by
      cases z : H D with
      | none => rfl
      | some o =>
        have := b12 D o nD.1 z
        rw [hD] at this
        cases this
    -- if size > 0 and draw(pen, 5) == 0: text[..] = ..
    refine ⟨fun σ H5 => (∃ v : Option V, σ = [some (.ref q), some (.int c), some (.int mst), some (.ref D), v]) ∧ ∃ ms : List Nat, (∀ x ∈ ms, x ≤ 999999) ∧ ms.length = ns.length ∧ H5 D = some (.lst (iv ms)) ∧ PenAt H5 q g (n + 9) ∧ But q H H5, ?_, ?_⟩
    · refine ⟨_, rfl, _, _, rfl, rfl, _, rfl, ?_⟩
      by_cases hc0 : 0 < c
      case neg =>
        rw [decide_eq_false (by omega)]
        exact iteF (iteF ⟨⟨_, rfl⟩, ns, hb, rfl, hDd, pd.mono (by omega), bd⟩)
      rw [decide_eq_true (by omega)]
      refine iteT ⟨_, rfl, q, g, 5, n + 6, rfl, by decide, by decide, by omega, pd, fun x H3 x0 x1 p3 b3 => ⟨rfl, _, rfl, ?_⟩⟩
      have hD3 := b3 D _ nD.1 hDd
      refine ite2 (fun _ => ?_) (fun _ => ⟨⟨_, rfl⟩, ns, hb, rfl, hD3, p3.mono (by omega), bd.trans b3⟩)
      refine ⟨_, rfl, q, g, 2, n + 7, rfl, by decide, by decide, by omega, p3, fun y H4 y0 y1 p4 b4 => ⟨_, _, rfl, rfl, ?_⟩⟩
      have hD4 := b4 D _ nD.1 hD3
      refine ⟨_, rfl, _, rfl, _, rfl, q, g, c, n + 8, rfl, by omega, by omega, by omega, p4, fun i H5 i0 i1 p5 b5 => ?_⟩
      have hD5 := b5 D _ nD.1 hD4
      obtain ⟨j, rfl⟩ := Int.eq_ofNat_of_zero_le i0
      obtain ⟨m, hm⟩ : ∃ m : Nat, (999999 : Int) - y = (m : Int) := Int.eq_ofNat_of_zero_le (by omega)
      refine ⟨D, _, j, j, rfl, rfl, hD5, ?_, ⟨_, rfl⟩, ns.set j m, ?_, by rw [List.length_set], ?_, ?_, ?_⟩
      · rw [List.length_map]
        unfold ixN
        rw [if_pos (by omega), if_pos (by omega)]
        rfl
      · intro z hz
        rcases List.mem_or_eq_of_mem_set hz with e | e
        · exact hb z e
        · omega
      · rw [upd_same, iv, iv, List.map_set]
        dsimp only
        rw [hm]
      · exact p5.upd nD
      · intro z o ne e
        rw [upd_ne (ne_of_none e hDH)]
        exact b5 z o ne (b4 z o ne (b3 z o ne (bd z o ne e)))
    rintro σ H5 ⟨⟨v, rfl⟩, ms, hmb, hml, hD5, p5, b5⟩
    refine ⟨_, rfl, D, _, rfl, .inl ⟨SqL.of hD5, fun t ht => ?_⟩⟩
    exact k t ms _ hmb (by omega) upd_same (p5.same (same_new ht)) (b5.trans (.of (same_new ht)))
end
end W86

-- W86l
set_option Elab.async false
set_option linter.all false
set_option maxRecDepth 100000
set_option maxHeartbeats 4000000
namespace W86
open PySem L2 PySem.Spec PyProof.Rows

/-! ### a drawn place in the heap -/
def EntD (H : Hp) (kv : Key × V) : Prop := ∃ (z : List Nat) (t : Addr) (ns : List Nat), kv.1 = Sum.inr (S z) ∧ z.length ≤ 1 ∧ Asc z ∧ kv.2 = .ref t ∧ H t = some (.tup (iv ns)) ∧ ns.length ≤ 5 ∧ ∀ x ∈ ns, x ≤ 999999
def DrAt (H : Hp) (p : Addr) : Prop := ∃ (s : Nat) (d : Addr) (kvs : List (Key × V)), H p = some (.tup [.int s, .ref d]) ∧ s ≤ 10 ^ 18 ∧ H d = some (.dK kvs) ∧ kvs.length ≤ 8 ∧ ∀ kv ∈ kvs, EntD H kv
theorem EntD.mono {H H' : Hp} {kv : Key × V} (h : EntD H kv) (k : ∀ t xs, H t = some (.tup xs) → H' t = some (.tup xs)) : EntD H' kv := by
  obtain ⟨z, t, ns, h1, h2, h3, h4, h5, h6⟩ := h
  exact ⟨z, t, ns, h1, h2, h3, h4, k _ _ h5, h6⟩
theorem put_all {Pr : Key × V → Prop} {kvs : List (Key × V)} {k : Key} {v : V} (h : ∀ kv ∈ kvs, Pr kv) (hn : Pr (k, v)) : ∀ kv ∈ putK kvs k v, Pr kv := by
  intro kv hkv
  unfold putK at hkv
  split at hkv
  · obtain ⟨x, hx, rfl⟩ := List.mem_map.mp hkv
    split
    · rename_i e
      rw [e]
      exact hn
    · exact h x hx
  · rcases List.mem_append.mp hkv with e | e
    · exact h kv e
    · rw [List.mem_singleton.mp e]
      exact hn
theorem put_le (kvs : List (Key × V)) (k : Key) (v : V) : (putK kvs k v).length ≤ kvs.length + 1 := by
  unfold putK
  split
  · rw [List.length_map]
    exact Nat.le_succ _
  · rw [List.length_append]
    exact Nat.le_refl _
theorem get_of {kvs : List (Key × V)} {i : Nat} {k : Key} {v : V} (h : kvs[i]? = some (k, v)) : ∃ v', valV kvs k = some v' ∧ (k, v') ∈ kvs := by
  unfold valV
  cases e : kvs.find? fun kv => decide (kv.1 = k) with
  | none =>
    have := List.find?_eq_none.mp e (k, v) (List.mem_of_getElem? h)
    simp at this
  | some x =>
    have h1 := List.find?_some e
    have h1 : x.1 = k := by simpa using h1
    refine ⟨x.2, rfl, ?_⟩
    rw [← h1]
    exact List.mem_of_find?_eq_some e
section
variable {P : Program} {w : World} {K : PySem.W.Frag} {mg : Str → Option Value} {base : Heap}
/-! ### _law_drawn_place -/
def spDP : Sp := fun vs H Q _ => ∃ (q g : Addr) (n : Nat), vs = [.ref q] ∧ n ≤ 800000 ∧ PenAt H q g n ∧ ∀ (p : Addr) (H' : Hp), DrAt H' p → PenAt H' q g (n + 100) → But q H H' → Q (.ref p) H'
theorem scDP : FnScope ["_law_pen_here", "_law_start", "_law_values", "_law_sign"] ["_law_pen_here"] (defScope (st 23)) := ⟨rfl, rfl, rfl, by decide +kernel, rfl, by decide +kernel, by decide +kernel⟩
theorem ok_dp {f : Addr} {fd : FuncData} (F : Fun K "_law_drawn_place" "_law_drawn_place" (st 23) f fd) (B : Bl mg) (cDr : Cl P w K mg base L2.CX0 1 "_law_draw" ["_law_pen_here", "_law_count"] spDr)
    (cPk : Cl P w K mg base L2.CX0 2 "_law_pick" ["_law_pen_here", "_law_options"] spPk) (cDL : Cl P w K mg base L2.CX0 3 "_law_drawn_letters" ["_law_pen_here", "_law_count"] spDL) (cDT : Cl P w K mg base L2.CX0 3 "_law_drawn_text" ["_law_pen_here", "_law_size"] spDT) :
    FnOk P w K mg base L2.CX0 5 f fd ["_law_pen_here"] spDP := by
  refine F.ok scDP (fun vs H Q E h => ?_) (fun cdv A outer s H vs Q E hr h => ?_)
  · obtain ⟨q, g, n, rfl, _⟩ := h
    rfl
  · obtain ⟨q, g, n, rfl, hn, hP, k⟩ := h
    have hu := hu_of hr
    refine ⟨_, (pss_cons (ps_set (i := 1) scDP.nd rfl (Or.inl rfl) (by exact (pe_cl cPk hr (by decide) rfl pass0 (by exact (pa_cons (pv 0) (pa_cons (pe_lst (pa_cons pe_int (pa_cons (by exact (pe_cl cDr hr (by decide) rfl pass0 (by exact (pa_cons (pv 0) (pa_cons pe_int pa_nil))))) (pa_cons (by exact (pe_cl cDr hr (by decide) rfl pass0 (by exact (pa_cons (pv 0) (pa_cons (pe_op op_pow pe_int pe_int) pa_nil))))) (pa_cons (pe_op op_pow pe_int pe_int) pa_nil))))) pa_nil))))))
      (pss_cons (ps_set (i := 2) scDP.nd rfl (Or.inl rfl) pe_dnewK)
      (pss_cons (ps_for PassesOwn.never rfl (pi_str (by exact (pe_cl cDL hr (by decide) rfl pass0 (by exact (pa_cons (pv 0) (pa_cons (by exact (pe_cl cPk hr (by decide) rfl pass0 (by exact (pa_cons (pv 0) (pa_cons (pe_lst (pa_cons pe_int (pa_cons pe_int (pa_cons pe_int (pa_cons pe_int (pa_cons pe_int pa_nil)))))) pa_nil))))) pa_nil)))))) (pg_name (i := 3) scDP.nd rfl (Or.inl rfl)) (pss_one (ps_dput hu (pv 2) (pv 3) (by exact (pe_cl cDT hr (by decide) rfl pass0 (by exact (pa_cons (pv 0) (pa_cons (pe_op op_add pe_int (by exact (pe_cl cDr hr (by decide) rfl pass0 (by exact (pa_cons (pv 0) (pa_cons pe_int pa_nil)))))) pa_nil))))) rfl)))
      (pss_one (ps_ret (pe_tup (pa_cons (pv 1) (pa_cons (pv 2) pa_nil)))))))), ?_⟩
    -- start = pick(pen, [0, draw(pen, 30), draw(pen, 10 ** 18), 10 ** 18])
    refine ⟨_, rfl, _, rfl, q, g, 30, n, rfl, by decide, by decide, by omega, hP, fun x H1 x0 x1 p1 b1 => ?_⟩
    refine ⟨_, rfl, _, _, rfl, rfl, ⟨by decide, by decide, by decide⟩, q, g, _, n + 1, rfl, by decide, by decide, by omega, p1, fun y H2 y0 y1 p2 b2 => ?_⟩
    refine ⟨_, _, rfl, rfl, ⟨by decide, by decide, by decide⟩, line_le (show 4 ≤ 5000 by decide), fun L hL => ?_⟩
    refine ⟨q, g, L, _, n + 2, rfl, by omega, p2.same (same_new hL), upd_same, by simp, by show 4 ≤ 1000; decide, fun s0 H3 hs p3 b3 => ?_⟩
    have hy : y < 10 ^ 18 := y1
    obtain ⟨s, rfl, hs1⟩ : ∃ s : Nat, s0 = .int s ∧ s ≤ 10 ^ 18 := by
      have nat : ∀ z : Int, 0 ≤ z → z ≤ 10 ^ 18 → ∃ s : Nat, V.int z = .int s ∧ s ≤ 10 ^ 18 := fun z h1 h2 => by
        obtain ⟨j, rfl⟩ := Int.eq_ofNat_of_zero_le h1
        exact ⟨j, rfl, by omega⟩
      simp only [List.mem_cons, List.not_mem_nil, or_false] at hs
      rcases hs with rfl | rfl | rfl | rfl
      · exact nat 0 (by decide) (by decide)
      · exact nat x x0 (by omega)
      · exact nat y y0 (by omega)
      · exact nat _ (by decide) (by decide)
    have b03 : But q H H3 := b1.trans (b2.trans ((But.of (same_new hL)).trans b3))
    -- values = {}
    intro d hd
    have nd := p3.ne hd
    have hdH : H d = none := by
      cases z : H d with
      | none => rfl
      | some o =>
        have := b03 d o nd.1 z
        rw [hd] at this
        cases this
    have p4 : PenAt (upd H3 d (.dK [])) q g (n + 3) := p3.same (same_new hd)
    have b4 : But q H (upd H3 d (.dK [])) := b03.trans (.of (same_new hd))
    have e4 : (upd H3 d (.dK [])) d = some (.dK []) := upd_same
    generalize upd H3 d (.dK []) = H4 at p4 b4 e4
    -- for sign in drawn_letters(pen, pick(pen, [0, 1, 2, 3, 8]))
    refine ⟨_, rfl, _, rfl, line_le (show 5 ≤ 5000 by decide), fun L2 hL2 => ?_⟩
    refine ⟨q, g, L2, _, n + 3, rfl, by omega, p4.same (same_new hL2), upd_same, by simp, by show 5 ≤ 1000; decide, fun c0 H5 hc p5 b5 => ?_⟩
    obtain ⟨c, rfl, hc8⟩ : ∃ c : Nat, c0 = .int c ∧ c ≤ 8 := by
      simp only [List.mem_cons, List.not_mem_nil, or_false] at hc
      rcases hc with rfl | rfl | rfl | rfl | rfl
      · exact ⟨0, rfl, by decide⟩
      · exact ⟨1, rfl, by decide⟩
      · exact ⟨2, rfl, by decide⟩
      · exact ⟨3, rfl, by decide⟩
      · exact ⟨8, rfl, by decide⟩
    have b45 : But q H4 H5 := (But.of (same_new hL2)).trans b5
    refine ⟨q, g, c, n + 4, rfl, hc8, by omega, p5, fun z H6 hz hza p6 b6 => ?_⟩
    have b46 : But q H4 H6 := b45.trans b6
    have e6 : H6 d = some (.dK []) := b46 d _ nd.1 e4
    have hsz : (S z).cps.size = z.length := by simp [S]
    refine ⟨_, rfl, for_it walk_str (fun i σ H' => ∃ (kvs : List (Key × V)) (v : Option V), σ = [some (.ref q), some (.int s), some (.ref d), v] ∧ H' d = some (.dK kvs) ∧ kvs.length ≤ i ∧ (∀ kv ∈ kvs, EntD H' kv) ∧ PenAt H' q g (n + 6 + 10 * i) ∧ But q H H')
      ⟨[], none, rfl, e6, Nat.le_refl _, fun kv hkv => (by cases hkv), p6, b4.trans b46⟩ (fun _ _ _ _ _ => trivial) (fun i x σ Hc Hd hi e y => ?_) (fun σ Hd e => ?_)⟩
    · obtain ⟨kvs, v, rfl, h1, h2, h3, p, b⟩ := e
      obtain ⟨rfl, ch, hch, rfl⟩ := y
      rw [hsz] at hi
      have hch' : z[i]? = some ch := by simpa using hch
      have hcm : ch ∈ z := List.mem_of_getElem? hch'
      refine ⟨_, rfl, _, rfl, q, g, 5, n + 6 + 10 * i, rfl, by decide, by decide, by omega, p, fun x H7 x0 x1 p7 b7 => ?_⟩
      obtain ⟨j, rfl⟩ := Int.eq_ofNat_of_zero_le x0
      refine ⟨_, _, rfl, rfl, q, g, 1 + j, n + 7 + 10 * i, ?_, by omega, by omega, p7.mono (by omega), fun t ns H8 hb hl ht p8 b8 => ?_⟩
      · rw [show ((1 + j : Nat) : Int) = 1 + (j : Int) from by omega]
        rfl
      have h8 : H8 d = some (.dK kvs) := b8 d _ nd.1 (b7 d _ nd.1 h1)
      have stay : ∀ t' xs, Hd t' = some (.tup xs) → (upd H8 d (.dK (putK kvs (Sum.inr (S [ch])) (.ref t)))) t' = some (.tup xs) := fun t' xs e => by
        obtain ⟨pk, hpk⟩ := p.there
        have e7 := b7 t' _ (ne_of e hpk (by intro z; cases z)) e
        have e8 := b8 t' _ (ne_of e hpk (by intro z; cases z)) e7
        rw [upd_ne (ne_of e8 h8 (by intro z; cases z))]
        exact e8
      have ht' : (upd H8 d (.dK (putK kvs (Sum.inr (S [ch])) (.ref t)))) t = some (.tup (iv ns)) := by
        rw [upd_ne (ne_of ht h8 (by intro z; cases z))]
        exact ht
      refine ⟨_, rfl, _, rfl, d, _, rfl, DPut.k (k := Sum.inr (S [ch])) h8 (small1000 (by omega)), _, some (.str (S [ch])), rfl, upd_same, Nat.le_trans (put_le _ _ _) (by omega), ?_, ?_, ?_⟩
      · refine put_all (fun kv hkv => (h3 kv hkv).mono stay) ⟨[ch], t, ns, rfl, Nat.le_refl _, fun y hy => ?_, rfl, ht', hl, hb⟩
        rw [List.mem_singleton.mp hy]
        exact hza ch hcm
      · exact (p8.upd nd).mono (by omega)
      · intro y o ne e
        rw [upd_ne (ne_of_none e hdH)]
        exact b8 y o ne (b7 y o ne (b y o ne e))
    · obtain ⟨kvs, v, rfl, h1, h2, h3, p, b⟩ := e
      rw [hsz] at h2 p
      refine ⟨_, rfl, _, rfl, line_le (show 2 ≤ 5000 by decide), fun r hr => ?_⟩
      refine k r _ ⟨s, d, kvs, upd_same, hs1, same_new hr _ _ h1, by omega, fun kv hkv => (h3 kv hkv).mono fun t xs e => same_new hr _ _ e⟩ ?_ (b.trans (.of (same_new hr)))
      exact (p.same (same_new hr)).mono (by omega)
/-! ### _law_place_line -/
def spPL : Sp := fun vs H Q _ => ∃ p : Addr, vs = [.ref p] ∧ DrAt H p ∧ ∀ (l : List Nat) (H' : Hp), l.length ≤ 400 → Asc l → Same H H' → Q (.str (S l)) H'
theorem scPL : FnScope ["_law_place", "_law_start", "_law_values", "_law_line", "_law_sign", "_law_letter"] ["_law_place"] (defScope (st 24)) := ⟨rfl, rfl, rfl, by decide +kernel, rfl, by decide +kernel, by decide +kernel⟩
theorem num_S (n : Nat) : Str.ofString (toString ((n : Nat) : Int)) = S (TL.numL n) := TL.ext_tl (TL.tl_num n)
theorem num_asc (n : Nat) : Asc (TL.numL n) := fun c hc => by
  have := TL.numL_digits n c hc
  omega
theorem joc_le {c m : Nat} : ∀ {ps : List (List Nat)}, (∀ p ∈ ps, p.length ≤ m) → (K86.joc c ps).length ≤ ps.length * (m + 1)
  | [], _ => Nat.zero_le _
  | [p], h => by
    have := h p (by simp)
    show p.length ≤ 1 * (m + 1)
    omega
  | p :: q :: r, h => by
    have h1 := h p (by simp)
    have ih := joc_le (c := c) (ps := q :: r) fun x hx => h x (List.mem_cons_of_mem _ hx)
    show (p ++ c :: K86.joc c (q :: r)).length ≤ ((q :: r).length + 1) * (m + 1)
    rw [List.length_append, List.length_cons, Nat.add_mul]
    omega
theorem log_le {n : Nat} (h : n ≤ 10 ^ 18) : ((n : Int)).natAbs.log2 < 1920 := by
  rw [Int.natAbs_natCast]
  have : n < 2 ^ 64 := by omega
  exact Nat.lt_trans (PySem.Flt.log2_lt_of (by decide) this) (by decide)
theorem ok_pl {f : Addr} {fd : FuncData} (F : Fun K "_law_place_line" "_law_place_line" (st 24) f fd) (B : Bl mg) : FnOk P w K mg base L2.CX0 1 f fd ["_law_place"] spPL := by
  refine F.ok scPL (fun vs H Q E h => ?_) (fun cdv A outer s H vs Q E hr h => ?_)
  · obtain ⟨p, rfl, _⟩ := h
    rfl
  · obtain ⟨p, rfl, hD, k⟩ := h
    have hu := hu_of hr
    refine ⟨_, (pss_cons (ps_asg (pv 0) (pg_tup rfl (pgs_cons (pg_name (i := 1) scPL.nd rfl (Or.inl rfl)) (pgs_cons (pg_name (i := 2) scPL.nd rfl (Or.inl rfl)) pgs_nil))))
      (pss_cons (ps_set (i := 3) scPL.nd rfl (Or.inl rfl) (pe_callTy call_str_int (by rfl) B.str (by decide +kernel) (pa_cons (pv 1) pa_nil)))
      (pss_cons (ps_lock (ps_for PassesOwn.never rfl (pi_keys (pv 2)) (pg_name (i := 4) scPL.nd rfl (Or.inl rfl)) (pss_one (ps_set (i := 3) scPL.nd rfl (Or.inl rfl) (pe_op op_add_str (pe_op op_add_str (pe_op op_add_str (pe_op op_add_str (pv 3) pe_str) (pv 4)) pe_str) (pe_join pe_str (pe_lc (own := [("_law_letter", 5)]) (g := gName 5) rfl scPL.nd (pi_tup (pe_dget hu (pv 2) (pv 4) (fun _ _ => rfl))) (blkOk_by (own := [("_law_letter", 5)]) (N := ["_law_place", "_law_start", "_law_values", "_law_line", "_law_sign", "_law_letter"]) (sc := defScope (st 24)) (by decide +kernel)) (fun _ _ _ _ _ => pg_name (i := 5) scPL.nd rfl (Or.inl rfl)) (fun _ _ _ _ _ => pts_nil) (fun _ _ _ _ _ => (pe_callTy call_str_int (by rfl) B.str (by decide +kernel) (pa_cons (pv 5) pa_nil))))))))))
      (pss_one (ps_ret (pv 3)))))), ?_⟩
    obtain ⟨s0, d, kvs, h1, hs, h2, h3, h4⟩ := hD
    refine ⟨_, rfl, p, _, rfl, SqT.of h1, rfl, _, _, rfl, _, _, rfl, rfl, ?_⟩
    refine ⟨_, rfl, _, rfl, log_le hs, ?_⟩
    rw [num_S]
    have hl0 : (TL.numL s0).length ≤ 19 := TL.numL_len (by decide) (by omega)
    refine ⟨d, _, h2, trivial, fun od => ?_⟩
    have f1 : (upd H d (.frz od (.dK kvs))) d = some (.frz od (.dK kvs)) := upd_same
    refine ⟨_, rfl, d, od, rfl, .inl ⟨kvs, f1, for_it walk_keys (fun i σ H' => ∃ (l : List Nat) (v : Option V), σ = [some (.ref p), some (.int s0), some (.ref d), some (.str (S l)), v, none] ∧ l.length ≤ 19 + 42 * i ∧ Asc l ∧ H' d = some (.frz od (.dK kvs)) ∧ Same (upd H d (.frz od (.dK kvs))) H')
      ⟨TL.numL s0, none, rfl, hl0, num_asc s0, f1, Same.refl _⟩ (fun i σ H' _ e => let ⟨_, _, _, _, _, e, _⟩ := e; e) (fun i x σ Hc Hd hi e y => ?_) (fun σ Hd e => ?_)⟩⟩
    · obtain ⟨l, v, rfl, hl, ha, hf, sm⟩ := e
      obtain ⟨rfl, ky, v0, hkv, rfl⟩ := y
      obtain ⟨v', hv', hm'⟩ := get_of hkv
      obtain ⟨z, t, ns, e1, hz1, hza, e2, ht0, hns, hnb⟩ := h4 _ hm'
      have e1 : ky = Sum.inr (S z) := e1
      have e2 : v' = .ref t := e2
      subst e1 e2
      have ht : Hd t = some (.tup (iv ns)) := by
        refine sm t _ ?_
        rw [upd_ne (ne_of ht0 h2 (by intro z; cases z))]
        exact ht0
      have hi8 : i < 8 := by omega
      have sz : ∀ a b : List Nat, a.length + b.length ≤ 5000 → (S a).length + (S b).length ≤ sizeLine := fun a b h => by rw [S_len, S_len]; exact line_le h
      -- line + ' ' + sign + '='
      refine ⟨_, rfl, _, _, rfl, rfl, by rw [blank]; exact sz _ _ (by simp only [List.length_cons, List.length_nil]; omega), ?_⟩
      refine ⟨_, rfl, _, _, rfl, rfl, ?_, ?_⟩
      · rw [blank, S_cat]
        exact sz _ _ (by rw [List.length_append, List.length_cons, List.length_nil]; omega)
      refine ⟨_, _, rfl, rfl, ?_, ?_⟩
      · rw [blank, S_cat, S_cat, equals]
        exact sz _ _ (by simp only [List.length_append, List.length_cons, List.length_nil]; omega)
      -- ','.join([str(letter) for letter in values[sign]])
      refine ⟨⟨_, rfl⟩, _, rfl, _, rfl, d, _, rfl, .inl ⟨kvs, Sum.inr (S z), .inr ⟨od, hf⟩, rfl, hv'.symm⟩, t, rfl, ⟨_, SqT.of ht⟩, fun D hD => lc_tup (K := K) (a := t) (xs := iv ns) (fun i H' => H' = upd Hd D (.lst (txs ((ns.take i).map TL.numL)))) rfl
        (fun i H' _ e => SqT.of (by rw [e, upd_ne (ne_of_none ht hD)]; exact ht)) (fun j x Hj hx e => ?_) (fun He e => ?_)⟩
      · subst e
        obtain ⟨y, hy, rfl⟩ : ∃ y, ns[j]? = some y ∧ x = V.int (y : Int) := by
          rw [List.getElem?_map] at hx
          cases q : ns[j]? with
          | none => rw [q] at hx; cases hx
          | some y =>
            rw [q] at hx
            exact ⟨y, rfl, (Option.some.inj hx).symm⟩
        have hyb := hnb y (List.mem_of_getElem? hy)
        refine ⟨rfl, ?_⟩
        unfold tYes
        refine iteT ⟨_, rfl, _, rfl, log_le (Nat.le_trans hyb (by decide)), _, upd_same, ?_, ?_⟩
        · rw [strs_len, List.length_map, List.length_take]
          exact small1000 (by omega)
        · rw [upd_upd, num_S, List.take_add_one, hy, txs, txs, List.map_append, List.map_append]
          rfl
      subst e
      rw [List.length_map, List.take_length]
      have hlen : ∀ x ∈ ns.map TL.numL, x.length ≤ 6 := fun x hx => by
        obtain ⟨y, hy, rfl⟩ := List.mem_map.mp hx
        exact TL.numL_len (by decide) (by have := hnb y hy; omega)
      have hjl := joc_le (c := 44) hlen
      rw [List.length_map] at hjl
      refine ⟨_, D, (ns.map TL.numL).map S, rfl, rfl, .inl (by rw [← strs_S]; exact SqL.of upd_same), ?_, ?_⟩
      · have := joc_len 44 (ns.map TL.numL)
        have e : (Str.ofString ",").length = 1 := by decide +kernel
        rw [e, List.length_map]
        omega
      rw [comma, join_eq]
      have hja : Asc (K86.joc 44 (ns.map TL.numL)) := fun c hc => by
        rcases joc_mem hc with e | ⟨p, hp, hcp⟩
        · rw [e]; decide
        · obtain ⟨y, hy, rfl⟩ := List.mem_map.mp hp
          exact num_asc y c hcp
      refine ⟨_, _, rfl, rfl, ?_, l ++ [32] ++ z ++ [61] ++ K86.joc 44 (ns.map TL.numL), some (.str (S z)), ?_, ?_, ?_, ?_, ?_⟩
      · rw [blank, S_cat, S_cat, equals, S_cat]
        exact sz _ _ (by simp only [List.length_append, List.length_cons, List.length_nil]; omega)
      · rw [blank, S_cat, S_cat, equals, S_cat, S_cat]
        rfl
      · simp only [List.length_append, List.length_cons, List.length_nil]
        omega
      · intro c hc
        simp only [List.mem_append, List.mem_cons, List.not_mem_nil, or_false] at hc
        rcases hc with (((hc | hc) | hc) | hc) | hc
        · exact ha c hc
        · rw [hc]; decide
        · exact hza c hc
        · rw [hc]; decide
        · exact hja c hc
      · rw [upd_ne (ne_of_none hf hD)]
        exact hf
      · exact sm.trans (same_new hD)
    · obtain ⟨l, v, rfl, hl, ha, hf, sm⟩ := e
      refine ⟨hf, _, rfl, ?_⟩
      refine k l _ (by omega) ha fun b o e => ?_
      by_cases hb : b = d
      · rw [hb] at e ⊢
        rw [h2] at e
        cases e
        exact upd_same
      · rw [upd_ne hb]
        exact sm b o (by rw [upd_ne hb]; exact e)
end
end W86

-- W86m
set_option Elab.async false
set_option linter.all false
set_option maxRecDepth 100000
set_option maxHeartbeats 4000000
namespace W86
open PySem L2 PySem.Spec PyProof.Rows

section
variable {P : Program} {w : World} {K : PySem.W.Frag} {mg : Str → Option Value} {base : Heap}
/-! ### _law_bent -/
def Menu (xs : List V) : Prop := xs ≠ [] ∧ xs.length ≤ 1000 ∧ ∀ x ∈ xs, ∃ z : List Nat, x = .str (S z) ∧ z.length ≤ 4 ∧ Asc z
def spBn : Sp := fun vs H Q _ => ∃ (q g a : Addr) (l : List Nat) (xs : List V) (n : Nat), vs = [.ref q, .str (S l), .ref a] ∧ n ≤ 800000 ∧ l.length ≤ 500 ∧ Asc l ∧ PenAt H q g n ∧ H a = some (.lst xs) ∧ Menu xs ∧
  ∀ (z : List Nat) (H' : Hp), z.length ≤ l.length + 4 → Asc z → PenAt H' q g (n + 4) → But q H H' → Q (.str (S z)) H'
theorem scBn : FnScope ["_law_pen_here", "_law_line", "_law_signs", "_law_at", "_law_other", "_law_sign", "_law_way", "_law_pair"] ["_law_pen_here", "_law_line", "_law_signs"] (defScope (st 22)) := ⟨rfl, rfl, rfl, by decide +kernel, rfl, by decide +kernel, by decide +kernel⟩
theorem Asc.app {a b : List Nat} (h1 : Asc a) (h2 : Asc b) : Asc (a ++ b) := fun c hc => (List.mem_append.mp hc).elim (h1 c) (h2 c)
theorem ok_bn {f : Addr} {fd : FuncData} (F : Fun K "_law_bent" "_law_bent" (st 22) f fd) (B : Bl mg) (cDr : Cl P w K mg base L2.CX0 1 "_law_draw" ["_law_pen_here", "_law_count"] spDr)
    (cPk : Cl P w K mg base L2.CX0 2 "_law_pick" ["_law_pen_here", "_law_options"] spPk) : FnOk P w K mg base L2.CX0 4 f fd ["_law_pen_here", "_law_line", "_law_signs"] spBn := by
  refine F.ok scBn (fun vs H Q E h => ?_) (fun cdv A outer s H vs Q E hr h => ?_)
  · obtain ⟨q, g, a, l, xs, n, rfl, _⟩ := h
    rfl
  · obtain ⟨q, g, a, l, xs, n, rfl, hn, hl, hA, hP, ha, hM, k⟩ := h
    refine ⟨_, (pss_cons (ps_par3 (by rfl) scBn.nd rfl rfl rfl (i := 3) (j := 4) (l := 5) (by decide) (by decide) (by decide) rfl rfl rfl (pa_cons (by exact (pe_cl cDr hr (by decide) rfl pass0 (by exact (pa_cons (pv 0) (pa_cons (pe_op op_add (pe_callB call_len_str (by rfl) B.len PySem.boot_len (pa_cons (pv 1) pa_nil)) pe_int) pa_nil))))) (pa_cons (by exact (pe_cl cDr hr (by decide) rfl pass0 (by exact (pa_cons (pv 0) (pa_cons (pe_op op_add (pe_callB call_len_str (by rfl) B.len PySem.boot_len (pa_cons (pv 1) pa_nil)) pe_int) pa_nil))))) (pa_cons (by exact (pe_cl cPk hr (by decide) rfl pass0 (by exact (pa_cons (pv 0) (pa_cons (pv 2) pa_nil))))) pa_nil))) (by rfl))
      (pss_cons (ps_set (i := 6) scBn.nd rfl (Or.inl rfl) (by exact (pe_cl cDr hr (by decide) rfl pass0 (by exact (pa_cons (pv 0) (pa_cons pe_int pa_nil))))))
      (pss_cons (ps_if (pt_cmpR op_lt (pv 6) pe_int (nomark _)) (pss_one (ps_ret (pe_op op_add_str (pe_op op_add_str (pe_slice sl_str (pv 1) po_none (po_some (pv 3))) (pv 5)) (pe_slice sl_str (pv 1) (po_some (pv 3)) po_none)))) pss_nil)
      (pss_cons (ps_if (pt_cmpR op_eq (pv 6) pe_int (nomark _)) (pss_one (ps_ret (pe_op op_add_str (pe_slice sl_str (pv 1) po_none (po_some (pv 3))) (pe_slice sl_str (pv 1) (po_some (pe_op op_add (pv 3) pe_int)) po_none)))) pss_nil)
      (pss_cons (ps_if (pt_cmpR op_eq (pv 6) pe_int (nomark _)) (pss_one (ps_ret (pe_op op_add_str (pe_op op_add_str (pe_slice sl_str (pv 1) po_none (po_some (pv 3))) (pv 5)) (pe_slice sl_str (pv 1) (po_some (pe_op op_add (pv 3) pe_int)) po_none)))) pss_nil)
      (pss_cons (ps_if (pt_cmpR op_eq (pv 6) pe_int (nomark _)) (pss_one (ps_ret (pe_op op_add_str (pe_op op_add_str (pe_slice sl_str (pv 1) po_none (po_some (pv 3))) (pe_slice sl_str (pv 1) (po_some (pv 3)) (po_some (pe_op op_add (pv 3) pe_int)))) (pe_slice sl_str (pv 1) (po_some (pv 3)) po_none)))) pss_nil)
      (pss_cons (ps_if (pt_cmpR op_eq (pv 6) pe_int (nomark _)) (pss_cons (ps_set (i := 7) scBn.nd rfl (Or.inl rfl) (pe_op op_add_str (pe_slice sl_str (pv 1) (po_some (pe_op op_add (pv 3) pe_int)) (po_some (pe_op op_add (pv 3) pe_int))) (pe_slice sl_str (pv 1) (po_some (pv 3)) (po_some (pe_op op_add (pv 3) pe_int)))))
      (pss_one (ps_ret (pe_op op_add_str (pe_op op_add_str (pe_slice sl_str (pv 1) po_none (po_some (pv 3))) (pv 7)) (pe_slice sl_str (pv 1) (po_some (pe_op op_add (pv 3) pe_int)) po_none))))) pss_nil)
      (pss_cons (ps_if (pt_cmpR op_eq (pv 6) pe_int (nomark _)) (pss_one (ps_ret (pe_op op_add_str (pe_slice sl_str (pv 1) po_none (po_some (pe_callB (call_min2 rfl) (by rfl) B.min (by decide +kernel) (pa_cons (pv 3) (pa_cons (pv 4) pa_nil))))) (pe_slice sl_str (pv 1) (po_some (pe_callB (call_max2 rfl) (by rfl) B.max (by decide +kernel) (pa_cons (pv 3) (pa_cons (pv 4) pa_nil)))) po_none)))) pss_nil)
      (pss_one (ps_ret (pe_slice sl_str (pv 1) po_none (po_some (pv 3))))))))))))), ?_⟩
    obtain ⟨m1, m2, m3⟩ := hM
    have hz : (S l).length ≤ sizeLine := by rw [S_len]; exact line_le (by omega)
    -- at, other, sign
    refine ⟨_, rfl, _, rfl, _, rfl, hz, _, _, rfl, rfl, q, g, _, n, rfl, by omega, by rw [S_len]; omega, by omega, hP, fun x H1 x0 x1 p1 b1 => ?_⟩
    refine ⟨_, rfl, _, rfl, _, rfl, hz, _, _, rfl, rfl, q, g, _, n + 1, rfl, by omega, by rw [S_len]; omega, by omega, p1, fun y H2 y0 y1 p2 b2 => ?_⟩
    obtain ⟨pk, hpk⟩ := hP.there
    have naq : a ≠ q := ne_of ha hpk (by intro z; cases z)
    have ha2 : H2 a = some (.lst xs) := b2 a _ naq (b1 a _ naq ha)
    refine ⟨_, rfl, _, rfl, q, g, a, xs, n + 2, rfl, by omega, p2, ha2, m1, m2, fun s0 H3 hs p3 b3 => ?_⟩
    obtain ⟨sg, rfl, hsl, hsa⟩ := m3 s0 hs
    refine ⟨_, _, _, rfl, ?_⟩
    rw [S_len] at x1 y1
    obtain ⟨i, rfl⟩ := Int.eq_ofNat_of_zero_le x0
    obtain ⟨j, rfl⟩ := Int.eq_ofNat_of_zero_le y0
    have hi : i ≤ l.length := by omega
    have hj : j ≤ l.length := by omega
    have b13 : But q H H3 := b1.trans (b2.trans b3)
    -- way
    refine ⟨_, rfl, q, g, 8, n + 3, rfl, by decide, by decide, by omega, p3, fun wy H4 w0 w1 p4 b4 => ?_⟩
    have fin : ∀ z : List Nat, z.length ≤ l.length + 4 → Asc z → Q (.str (S z)) H4 := fun z h1 h2 => k z H4 h1 h2 p4 (b13.trans b4)
    have sz : ∀ a b : List Nat, a.length + b.length ≤ 5000 → (S a).length + (S b).length ≤ sizeLine := fun a b h => by rw [S_len, S_len]; exact line_le h
    have ti : ∀ i : Nat, i ≤ l.length → (l.take i).length = i := fun i h => by rw [List.length_take]; omega
    have i1 : ((i : Int) + 1) = ((i + 1 : Nat) : Int) := by omega
    have i2 : ((i : Int) + 2) = ((i + 2 : Nat) : Int) := by omega
    have li : (l.take i).length = i := ti i hi
    have ld : ∀ i : Nat, (l.drop i).length = l.length - i := fun i => List.length_drop ..
    have lm : ((l.drop i).take (i + 1 - i)).length ≤ 1 := by rw [List.length_take]; omega
    have lm2 : ((l.drop (i + 1)).take (i + 2 - (i + 1))).length ≤ 1 := by rw [List.length_take]; omega
    refine ⟨_, rfl, _, _, rfl, rfl, _, rfl, ?_⟩
    refine ite2 (fun _ => ?_) (fun _ => ?_)
    · -- line[:at] + sign + line[at:]
      refine ⟨_, rfl, _, rfl, _, rfl, _, rfl, hz, _, rfl, _, _, rfl, rfl, ?_, _, rfl, _, rfl, _, rfl, _, rfl, hz, _, _, rfl, rfl, ?_, ?_⟩
      · rw [cut0]
        exact sz _ _ (by omega)
      · rw [cut0, cut1, S_cat]
        exact sz _ _ (by rw [List.length_append, ld]; omega)
      · rw [cut0, cut1, S_cat, S_cat]
        exact fin _ (by rw [List.length_append, List.length_append, ld]; omega) (((hA.take i).app hsa).app (hA.drop i))
    refine ⟨_, rfl, rfl, _, rfl, ?_⟩
    refine ite2 (fun _ => ?_) (fun _ => ?_)
    · refine ⟨_, rfl, _, rfl, _, rfl, _, rfl, hz, _, rfl, _, rfl, _, _, rfl, rfl, _, rfl, _, rfl, hz, _, _, rfl, rfl, ?_, ?_⟩
      · rw [i1, cut0, cut1]
        exact sz _ _ (by rw [ld]; omega)
      · rw [i1, cut0, cut1, S_cat]
        exact fin _ (by rw [List.length_append, ld]; omega) ((hA.take i).app (hA.drop _))
    refine ⟨_, rfl, rfl, _, rfl, ?_⟩
    refine ite2 (fun _ => ?_) (fun _ => ?_)
    · refine ⟨_, rfl, _, rfl, _, rfl, _, rfl, hz, _, rfl, _, _, rfl, rfl, ?_, _, rfl, _, rfl, _, _, rfl, rfl, _, rfl, _, rfl, hz, _, _, rfl, rfl, ?_, ?_⟩
      · rw [cut0]
        exact sz _ _ (by omega)
      · rw [i1, cut0, cut1, S_cat]
        exact sz _ _ (by rw [List.length_append, ld]; omega)
      · rw [i1, cut0, cut1, S_cat, S_cat]
        exact fin _ (by rw [List.length_append, List.length_append, ld]; omega) (((hA.take i).app hsa).app (hA.drop _))
    refine ⟨_, rfl, rfl, _, rfl, ?_⟩
    refine ite2 (fun _ => ?_) (fun _ => ?_)
    · refine ⟨_, rfl, _, rfl, _, rfl, _, rfl, hz, _, rfl, _, rfl, _, rfl, _, rfl, _, _, rfl, rfl, _, rfl, _, rfl, hz, _, _, rfl, rfl, ?_, _, rfl, _, rfl, _, rfl, _, rfl, hz, _, _, rfl, rfl, ?_, ?_⟩
      · rw [i1, cut0, cut2]
        exact sz _ _ (by omega)
      · rw [i1, cut0, cut1, cut2, S_cat]
        exact sz _ _ (by rw [List.length_append, ld]; omega)
      · rw [i1, cut0, cut1, cut2, S_cat, S_cat]
        exact fin _ (by rw [List.length_append, List.length_append, ld]; omega) (((hA.take i).app ((hA.drop i).take _)).app (hA.drop _))
    refine ⟨_, rfl, rfl, _, rfl, ?_⟩
    refine ite2 (fun _ => ?_) (fun _ => ?_)
    · -- pair
      refine ⟨_, rfl, _, rfl, _, _, rfl, rfl, _, rfl, _, rfl, _, _, rfl, rfl, _, rfl, _, rfl, hz, _, rfl, _, rfl, _, rfl, _, rfl, _, _, rfl, rfl, _, rfl, _, rfl, hz, _, _, rfl, rfl, ?_, ?_⟩
      · rw [i1, i2, cut2, cut2]
        exact sz _ _ (by omega)
      rw [i1, i2, cut2, cut2, S_cat]
      refine ⟨_, rfl, _, rfl, _, rfl, _, rfl, hz, _, rfl, _, _, rfl, rfl, ?_, _, rfl, _, rfl, _, _, rfl, rfl, _, rfl, _, rfl, hz, _, _, rfl, rfl, ?_, ?_⟩
      · rw [cut0]
        exact sz _ _ (by rw [List.length_append]; omega)
      · rw [i2, cut0, cut1, S_cat]
        exact sz _ _ (by rw [List.length_append, List.length_append, ld]; omega)
      · rw [i2, cut0, cut1, S_cat, S_cat]
        exact fin _ (by rw [List.length_append, List.length_append, List.length_append, ld]; omega) (((hA.take i).app (((hA.drop _).take _).app ((hA.drop i).take _))).app (hA.drop _))
    refine ⟨_, rfl, rfl, _, rfl, ?_⟩
    refine ite2 (fun _ => ?_) (fun _ => ?_)
    · obtain ⟨m, hm, hml⟩ : ∃ m : Nat, (if (j : Int) < (i : Int) then (j : Int) else (i : Int)) = (m : Int) ∧ m ≤ i := by
        by_cases h : j < i
        · exact ⟨j, if_pos (by omega), by omega⟩
        · exact ⟨i, if_neg (by omega), by omega⟩
      obtain ⟨m2, hm2, hml2⟩ : ∃ m : Nat, (if (j : Int) > (i : Int) then (j : Int) else (i : Int)) = (m : Int) ∧ i ≤ m := by
        by_cases h : i < j
        · exact ⟨j, if_pos (by omega), by omega⟩
        · exact ⟨i, if_neg (by omega), by omega⟩
      refine ⟨_, rfl, _, rfl, _, rfl, _, _, rfl, _, rfl, _, rfl, hz, _, rfl, _, rfl, _, rfl, _, _, rfl, _, rfl, _, rfl, hz, _, _, rfl, rfl, ?_, ?_⟩
      · rw [hm, hm2, cut0, cut1]
        exact sz _ _ (by rw [List.length_take, ld]; omega)
      · rw [hm, hm2, cut0, cut1, S_cat]
        exact fin _ (by rw [List.length_append, List.length_take, ld]; omega) ((hA.take m).app (hA.drop m2))
    · refine ⟨_, rfl, _, rfl, _, rfl, _, rfl, hz, ?_⟩
      rw [cut0]
      exact fin _ (by rw [List.length_take]; omega) (hA.take i)
end
end W86

-- W86n
set_option Elab.async false
set_option linter.all false
set_option maxRecDepth 100000
set_option maxHeartbeats 4000000
namespace W86
open PySem L2 PySem.Spec PyProof.Rows
/-! ### try, and the caught object is still known behind the clause -/
/-- the context behind the clause: the caught object is pinned -/
abbrev aft (X : Cx) (a : Addr) (oe : Obj) (pn : List (Addr × Obj)) : Cx := X.tr ((a, oe) :: pn) X.xe
/-- the wish at the body's exception -/
def wGot (K : PySem.W.Frag) (len : Nat) (c : Value) (i : Nat) (ts v : Addr → Value → Option Addr → TS) (D : Ends) : WX := fun cls d σ H =>
  PySem.W.exmOne K cls c = some true ∧ ∀ a, σ.length = len → H a = none → ts a cls d { nx := fun σ1 H1 => v a cls d D (σ1.set i none) H1, rt := fun _ _ => False } (σ.set i (some (.ref a))) H
section
variable {X : Cx} {pins : List (Addr × Obj)} {σ : L2.St} {H : Hp} {s : Shared}
theorem into_aft {a : Addr} {oe : Obj} (I : Inv (X.suite a ((a, oe) :: (X.pn ++ pins))) [] σ H s) (ok : X.Ok) : Inv (aft X a oe (X.pn ++ pins)) [] σ H s :=
  ⟨ok.toTry _ _, I.os, I.bare, I.base, I.loc, I.cell, I.free, I.freeC, I.pin, I.hok, I.len⟩
theorem from_aft {a : Addr} {oe : Obj} (I : Inv (aft X a oe (X.pn ++ pins)) [] σ H s) (ok : X.Ok) : Inv X pins σ H s :=
  ⟨ok, I.os, I.bare, I.base, I.loc, I.cell, I.free, I.freeC, fun p hp => I.pin p (by simp only [List.append_nil]; exact List.mem_cons_of_mem _ hp), I.hok, I.len⟩
theorem sp_aft {a : Addr} {oe : Obj} {D : Ends} {f : Flow} (ok : X.Ok) (h : SP (aft X a oe (X.pn ++ pins)) [] D f s) : SP X pins D f s := by
  cases f with
  | ret u => exact h.elim fun v h => h.elim fun σ1 h => h.elim fun H1 h => ⟨v, σ1, H1, from_aft h.1 ok, h.2⟩
  | next => exact h.elim fun σ1 h => h.elim fun H1 h => ⟨σ1, H1, from_aft h.1 ok, h.2⟩
  | brk => exact h.elim fun σ1 h => h.elim fun H1 h => ⟨σ1, H1, from_aft h.1 ok, h.2⟩
  | cont => exact h.elim fun σ1 h => h.elim fun H1 h => ⟨σ1, H1, from_aft h.1 ok, h.2⟩
theorem not_frame {B h : Heap} {l : List Env} {a : Addr} {o : Obj} {vs : Array Value} (ff : h.FunFrames B l) (e : h.get? a = some o) (d : o.data = .fields vs) : a ∉ frs l := fun z => by
  obtain ⟨_, o1, e1, q⟩ := ff.mem z
  cases e.symm.trans e1
  exact q vs d
end
section
variable {X : Cx} {x n : Str} {c : Value} {i : Nat} {body suite rest : List Stmt} {b₀ : Stmt} {np pos pos' : Pos} {tb : WX → TS} {ts v : Addr → Value → Option Addr → TS} {u : TS}
theorem pss_try (hs : X.stack = X.env :: X.outer) (hf : X.env.frame = some X.env.locals) (hN : X.N.Nodup) (hi : X.N[i]? = some n) (hl : X.env.kindOf n = some .local) (hc : Names X x c)
    (hb : ∀ (W : WX) (pn : List (Addr × Obj)) (xe : Value → Shared → Prop), Takes (X.tr pn xe) W → PSs (X.tr pn xe) body (tb W))
    (hsu : ∀ (a : Addr) (oe : Obj) (cls : Value) (d : Option Addr) (pn : List (Addr × Obj)), PSs (X.suite a ((a, oe) :: pn)) (b₀ :: suite) (ts a cls d))
    (hrest : PSs X rest u) (hv : ∀ (a : Addr) (oe : Obj) (cls : Value) (d : Option Addr) (pn : List (Addr × Obj)), Zc cls d oe → (∃ vs, oe.data = .fields vs) → PSs (aft X a oe pn) rest (v a cls d)) :
    PSs X (.Try body [.ExceptHandler (some (.Name x np)) (some n) (b₀ :: suite) pos'] [] [] pos :: rest) (fun D σ H => tb (wGot X.K X.N.length c i ts v D) { D with nx := u D } σ H) := by
  refine ⟨fun pins s σ H D I h => wpAny_execs_cons (wpAny_Try_except ?_)⟩
  have ok : X.Ok := I.ok
  have fr : X.A.frames = some (X.env :: X.outer) := ok.frames.trans (congrArg some hs)
  let after : Flow → Shared → Prop := fun f s' => match f with
    | .next => wpAny (model X.prog X.w) X.A (execs rest X.env) (SP X pins D) X.xe s'
    | f => SP X pins D f s'
  refine wpAny_mono (Q := SP (X.tr (X.pn ++ pins) fun e s1 => wpAny (model X.prog X.w) X.A (noteFrame e X.env) (fun _ s2 => wpAny (model X.prog X.w) X.A (setFlight e none)
      (fun _ s3 => wpAny (model X.prog X.w) X.A (handleBy e X.env [.ExceptHandler (some (.Name x np)) (some n) (b₀ :: suite) pos']) after X.xe s3) X.xe s2) X.xe s1) [] { D with nx := u D })
    ((hb (wGot X.K X.N.length c i ts v D) _ _ fun e s1 q => ?_).run [] s σ H { D with nx := u D } (I.toTry _) h) (fun f s1 q => ?_) fun _ _ q => q
  · obtain ⟨a, B, s0, p0, σ1, H1, cls, d, e1, J0, nb, up, sky, na, os, ag, hm, hw⟩ := q
    subst e1
    have J1 : Inv X pins σ1 H1 s0 := J0.ofTry ok
    refine Sky.land Zc.steady fr hf (hs ▸ sky) fun h2 F2 up2 => ?_
    obtain ⟨o2, v2, g2, z2, d2⟩ := F2.there
    have nf := not_frame F2.2.2.1 g2 d2
    have nl : a ≠ X.env.locals := fun z => nf (List.mem_filterMap.mpr ⟨X.env, .head _, hf.trans (congrArg some z.symm)⟩)
    have no : a ∉ X.fs := fun z => (List.mem_filterMap.mp z).elim fun e q => nf (List.mem_filterMap.mpr ⟨e, .tail _ q.1, q.2⟩)
    have J2 : Inv X pins σ1 H1 { s1 with heap := h2 } := J1.landed nb F2.1 (up.trans up2) os ag
    have S2 := J2.suite g2 d2 na nl no
    refine wpAny_handleBy_cons (codeAny_handlers_test ?_) (fun z => nomatch z)
    have ty : PySem.W.Looks (model X.prog X.w) h2 (typeOf (.ref a)) cls := fun _ _ _ _ k q => wpAny_typeOf_ref (k _ _ g2) (z2.1.symm ▸ q)
    have tst := PySem.W.exm_one (M := model X.prog X.w) J2.kIn ty hm
    have nam : ∀ {Q E : Value → Shared → Prop}, Q c { s1 with heap := h2 } → wpAny (model X.prog X.w) (X.A.mark (some (.ref a))) (eval (.Name x np) X.env) Q E { s1 with heap := h2 } := fun q => by
      obtain ⟨g, nd, k | ⟨k1, k2, k3⟩⟩ := hc
      · exact ld_glob (X := X.suite a ((a, o2) :: (X.pn ++ pins))) S2 g k q nd
      · exact ld_blt (X := X.suite a ((a, o2) :: (X.pn ++ pins))) S2 g k1 k2 q k3 nd
    refine nam (tst.here (codeAny_handlers_suite_as (HandSPX.lands_againZ F2 fun h4 F4 up4 => ?_)))
    obtain ⟨o4, v4, g4, z4, d4⟩ := F4.there
    have J4 : Inv X pins σ1 H1 { s1 with heap := h4 } := J1.landed nb F4.1 ((up.trans up2).trans up4) os ag
    refine store_ok (X := X.suite a ((a, o4) :: (X.pn ++ pins))) (v := .ref a) (J4.suite g4 d4 na nl no) hN hi (.inl hl) rfl (fun s5 S5 => ?_) (.inr hl)
    refine wpAny_mono ((hsu a o4 cls d (X.pn ++ pins)).run [] s5 _ H1 _ S5 (hw a J1.len na)) (fun f s6 q => ?_) fun _ _ z => False.elim z
    cases f with
    | next =>
      obtain ⟨σ6, H6, S6, q6⟩ := q
      exact gone_ok (X := aft X a o4 (X.pn ++ pins)) (into_aft S6 ok) hN hi hl fun s7 J7 =>
        wpAny_mono ((hv a o4 cls d (X.pn ++ pins) z4 ⟨_, d4⟩).run [] s7 _ H6 D J7 q6) (fun f s8 q => sp_aft ok q) fun _ _ q => q
    | brk => exact q.elim fun _ q => q.elim fun _ q => q.2.elim
    | cont => exact q.elim fun _ q => q.elim fun _ q => q.2.elim
    | ret w => exact q.elim fun _ q => q.elim fun _ q => q.elim fun _ q => q.2.2.elim
  · cases f with
    | next =>
      obtain ⟨σ1, H1, J1, q⟩ := q
      exact wpAny_execs_nil (hrest.run pins s1 σ1 H1 D (J1.ofTry ok) q)
    | brk => exact q.elim fun σ1 q => q.elim fun H1 q => ⟨σ1, H1, q.1.ofTry ok, q.2⟩
    | cont => exact q.elim fun σ1 q => q.elim fun H1 q => ⟨σ1, H1, q.1.ofTry ok, q.2⟩
    | ret w => exact q.elim fun v1 q => q.elim fun σ1 q => q.elim fun H1 q => ⟨v1, σ1, H1, q.1.ofTry ok, q.2⟩
end
end W86

-- W86o
set_option Elab.async false
set_option linter.all false
set_option maxRecDepth 100000
set_option maxHeartbeats 4000000
namespace W86
open PySem L2 PySem.Spec PyProof.Rows

/-! ### the caught ParseError is asked -/
structure PEx (K : PySem.W.Frag) (C : Addr) : Prop where
  xf : XfC K C
  ex : ExcC K C
  me : PySem.W.exmOne K (.ref C) (.ref C) = some true
  ve : PySem.W.kitOne K (.ref C) (.type "ValueError") = some true
  cl : (PySem.W.clsIn K C).isSome = true
def tAsk (a C : Addr) (cls : Value) (d : Option Addr) : List V → Hp → VK → Prop := fun xs H Q => xs = [.ref a, .ty "ValueError"] ∧ cls = .ref C ∧ (∃ (dd : Addr) (fs : List (Str × V)), d = some dd ∧ H dd = some (.xd fs)) ∧ Q (.bl true) H
section
variable {X : Cx} {a C : Addr} {oe : Obj} {cls : Value} {d : Option Addr} {pn : List (Addr × Obj)}
/-- the object in the heap, and its dict -/
theorem aft_inst {pins : List (Addr × Obj)} {σ : L2.St} {H : Hp} {s : Shared} {dd : Addr} {fs : List (Str × V)} (hz : Zc (.ref C) (some dd) oe) (hf : ∃ vs, oe.data = .fields vs) (I : Inv (aft X a oe pn) pins σ H s) (ha : H dd = some (.xd fs)) :
    ∃ od, PySem.W.InstAt s.heap a oe C (some od) ∧ ∀ (n : Str) (v : V), fs.lookup n = some v → ∃ u, PySem.W.lookIn n od = some (some u) ∧ RelV v u := by
  obtain ⟨h1, _⟩ := I.pin (a, oe) (List.mem_append_left _ (.head _))
  obtain ⟨vs, h2⟩ := hf
  obtain ⟨mA, h3, h4⟩ := (show ObjOk X.prog X.w H s.heap dd (.xd fs) from I.hok dd _ ha)
  obtain ⟨od, h5, h6⟩ := lookIn_ns h3
  refine ⟨od, ⟨h1, hz.1, ?_, ?_⟩, fun n v l => ?_⟩
  · unfold PySem.W.notCls
    rw [h2] <;> rfl
  · rw [hz.2]
    exact h5
  · obtain ⟨u, e, r⟩ := RelO.some_of (v := v) (o := mA n) (l ▸ h4 n)
    exact ⟨u, (h6 n).trans (congrArg some e), r⟩
theorem aft_isi (T : PEx X.K C) (hz : Zc cls d oe) (hf : ∃ vs, oe.data = .fields vs) : CallR (aft X a oe pn) (.builtin "isinstance") (tAsk a C cls d) := by
  intro pins s σ H xs us Q I r h
  obtain ⟨rfl, rfl, ⟨dd, fs, rfl, hd⟩, q⟩ := h
  obtain ⟨od, J, _⟩ := aft_inst hz hf I hd
  obtain ⟨u1, u2, rfl, r1, r2⟩ := vals2 r
  cases (show u1 = Value.ref a from r1)
  cases (show u2 = Value.type "ValueError" from r2)
  exact PySem.W.kia_one (PySem.W.kitx_exc T.cl T.ex.hg T.ex.hk T.ex.hs T.ex.ha T.ex.hn T.ex.ht T.ex.hm) I.kIn J T.ve (fun z => nomatch z) fun tk => ⟨.bl true, H, I.tok tk, rfl, q⟩
theorem aft_attr {e : Expr} {te : TE} {pos : Pos} {n : Str} (T : PEx X.K C) (hno : PySem.W.findIn X.K (.ref C) n = some none) (hz : Zc cls d oe) (hf : ∃ vs, oe.data = .fields vs) (he : PE (aft X a oe pn) e te)
    (hb : attributeBase e n X.env (eval e X.env) = eval e X.env := by rfl) : PE (aft X a oe pn) (.Attribute e n pos) (tXf a cls d C n te) := by
  refine ⟨fun pins s σ H Q I h => attr_of hb (thn (he.run pins s σ H _ I h) fun u s1 hh => ?_)⟩
  obtain ⟨x, H1, I1, rx, rfl, rfl, dd, fs, v, rfl, hd, l, q⟩ := hh
  cases (show u = Value.ref a from rx)
  obtain ⟨od, J, k⟩ := aft_inst hz hf I1 hd
  obtain ⟨u, hu, ru⟩ := k n v l
  exact HandSPX.exc_get I1.kIn J T.xf.ga T.xf.gg T.xf.exC (PySem.W.findObj_own T.xf.hdC hno rfl hu) (handed_of ru) ⟨v, H1, I1.tok _, ru, q⟩
end
/-! ### _law_parse_error -/
def abbrevPE : List Str := ["_law_call", "_law_caught", "_law_found", "e"]
/-- what it makes of the reading tl of its argument -/
def TT (C : Addr) (tl : XK → Hp → VK → Prop) (H : Hp) (Q : VK) : Prop := ∀ l, H l = none → ∀ (E' : XK) (Q' : VK), (∀ (d : Addr) (o : Int) (H' : Hp), H' d = some (.xd (off (.int o))) → Q (.int o) H' → E' (.ref C) (some d) H') →
  (∀ (v : V) (H' : Hp), H' l = some (.lst []) → Q (.ref l) (upd H' l (.lst [v])) → Q' v H') → tl E' (upd H l (.lst [])) Q'
theorem four {σ : L2.St} (h : σ.length = 4) : ∃ x0 x1 x2 x3, σ = [x0, x1, x2, x3] := by
  match σ, h with
  | [a, b, c, d], _ => exact ⟨a, b, c, d, rfl⟩
theorem scPX : FnScope ["_law_call", "_law_caught", "_law_found", "e"] ["_law_call"] (defScope (st 21)) := ⟨rfl, rfl, rfl, by decide +kernel, rfl, by decide +kernel, by decide +kernel⟩
theorem px_gives {X : Cx} {g C : Addr} {cdg : Value} {q : Str} (B : Bl X.mg) (T : PEx X.K C) (hv : X.mg "ValueError" = none) (gC : X.mg "ParseError" = some (.ref C)) (no : PySem.W.findIn X.K (.ref C) "offset" = some none) :
    LamX.GivesTo X ["_law_call", "_law_caught", "_law_found", "e"] "_law_parse_error" (defScope (st 21)) g cdg (defBody (st 21)) "_law_call" q (TT C) := by
  intro f c' s H Q tl act hc h
  refine ⟨_, pss_cons (ps_par (by rfl) scPX.nd rfl rfl (i := 1) (j := 2) (by decide) rfl rfl (pa_cons pe_non (pa_cons (pe_lst pa_nil) pa_nil)) (by rfl)) (pss_try (X := (cxOf C8.CX0 X.prog X.w X.K X.mg X.base ["_law_call", "_law_caught", "_law_found", "e"] "_law_parse_error" (defScope (st 21)) g cdg X.A X.stack s H C8.E0).nox) (i := 3) (c := .ref C)
    (tb := fun W D σ H1 => ∃ Ech : XK, (∀ cls d σ' H', Ech cls d H' → W cls d σ' H') ∧ ∃ l, σ = [some (.ref f), some .non, some (.ref l), none] ∧ H1 c' = some (LamX.CodeO c' q) ∧ H1 l = some (.lst []) ∧
      ∀ Q' : VK, (∀ (v : V) (H2 : Hp), H2 l = some (.lst []) → D.nx [some (.ref f), some .non, some (.ref l), none] (upd H2 l (.lst [v])) → Q' v H2) → tl Ech H1 Q')
    rfl rfl scPX.nd rfl rfl ⟨rfl, by decide, .inl gC⟩ (fun W pn xe tk => ?_)
    (fun a oe cls d pn => pss_one (ps_set (i := 1) scPX.nd rfl (Or.inl rfl) (pv 3)))
    (pss_cons (ps_if (pt_cmpR op_isN (pv 1) pe_non (nomark _)) (pss_one (ps_ret (pv 2))) pss_nil) (pss_one ps_never))
    (fun a oe cls d pn hz hf => pss_cons (ps_if (pt_cmpR op_isN (pv 1) pe_non (nomark _)) (pss_one (ps_ret (pv 2))) pss_nil) (pss_one (ps_ret (pe_ifExp (pt_val (pe_callB (aft_isi T hz hf) (by rfl) B.isi PyProof.Rows.boot_isinstance (pa_cons (pv 1) (pa_cons (pe_bltn (v := .ty "ValueError") (by rfl) hv (by decide +kernel) rfl) pa_nil)))) (aft_attr T no hz hf (pv 1)) pe_str))))), ?_⟩
  · refine ⟨fun pins s' σ H' D I h' => ?_⟩
    obtain ⟨Ech, hW, l, rfl, h2, h3, h4⟩ := h'
    refine (pss_one (ps_expr (pe_bm PySem.F.plainAttrs_list PySem.F.slot_list_append PySem.F.type_list_append mt_append (pv 2) (pa_cons (act W pn xe Ech _ _ tk hW) pa_nil)))).run pins s' _ H' D I ?_
    refine ⟨_, rfl, (.inl ⟨rfl, [], SqL.of h3⟩), rfl, h2, h4 _ fun v H2 e q => ?_⟩
    exact ⟨l, [], v, rfl, rfl, e, by decide, q⟩
  · refine ⟨by decide, fun l hl => ?_⟩
    refine ⟨_, _, rfl, fun cls d H' => cls = .ref C ∧ ∃ (dd : Addr) (o : Int), d = some dd ∧ H' dd = some (.xd (off (.int o))) ∧ Q (.int o) H', fun cls d σ' H' h' => ?_, l, rfl, ?_, upd_same, fun Q' k => ?_⟩
    · obtain ⟨rfl, dd, o, rfl, hd, q⟩ := h'
      refine ⟨T.me, fun a len na => ?_⟩
      obtain ⟨x0, x1, x2, x3, rfl⟩ : ∃ x0 x1 x2 x3, σ' = [x0, x1, x2, x3] := four len
      refine ⟨_, rfl, _, rfl, rfl, false, rfl, ?_⟩
      exact iteF ⟨_, rfl, rfl, rfl, ⟨dd, _, rfl, hd⟩, true, rfl, iteT ⟨_, rfl, rfl, rfl, dd, _, _, rfl, hd, rfl, q⟩⟩
    · rw [upd_ne (ne_of_none hc hl)]
      exact hc
    · exact h l hl _ Q' (fun d o H' hd q => ⟨rfl, d, o, rfl, hd, q⟩) fun v H' e q => k v H' e ⟨_, rfl, rfl, true, rfl, iteT ⟨_, rfl, q⟩⟩
end W86

-- W86p
set_option Elab.async false
set_option linter.all false
set_option maxRecDepth 100000
set_option maxHeartbeats 4000000
namespace W86
open PySem L2 PySem.Spec PyProof.Rows
/-! ### what repr shows of a list with a place in it -/
def numD (n : Nat) : PyData := .int n
def entD (e : Nat × List Nat) : PyData × PyData := (.str (S [e.1]), .tuple (e.2.map numD))
def plD (n : Nat) (u : K86.Vls) : PyData := .tuple [numD n, .dict (u.map entD)]
/-- the text -/
def rtx (n : Nat) (u : K86.Vls) : Str := (PyData.list [plD n u]).shown
/-- how large a place that was read is -/
structure FitU (n : Nat) (u : K86.Vls) : Prop where
  n : n ≤ 10 ^ 18
  len : u.length ≤ 8
  ent : ∀ e ∈ u, K86.letr e.1 = true ∧ e.2.length ≤ 700 ∧ ∀ x ∈ e.2, x ≤ 999999
theorem place_fit {l : List Nat} {n : Nat} {u : K86.Vls} (hl : l.length ≤ 600) (h : K86.placeOf l = some (n, u)) : FitU n u := by
  have h8 := (K86.place_len h).2
  have main : ∀ (ws : List (List Nat)) (a v : K86.Vls), (∀ w ∈ ws, w.length ≤ 600) → (∀ e ∈ a, K86.letr e.1 = true ∧ e.2.length ≤ 700 ∧ ∀ x ∈ e.2, x ≤ 999999) → K86.placeP a ws = some v → ∀ e ∈ v, K86.letr e.1 = true ∧ e.2.length ≤ 700 ∧ ∀ x ∈ e.2, x ≤ 999999 := by
    intro ws
    induction ws with
    | nil =>
      intro a v _ ha e
      cases (show some a = some v from e)
      exact ha
    | cons w ws ih =>
      intro a v hw ha e
      have e : (if K86.isVal a w = true then K86.placeP (a ++ [(w.headD 0, K86.valsOf w)]) ws else none) = some v := e
      by_cases q : K86.isVal a w = true
      case neg =>
        rw [if_neg q] at e
        cases e
      rw [if_pos q] at e
      refine ih _ v (fun x hx => hw x (.tail _ hx)) (fun x hx => ?_) e
      rcases List.mem_append.mp hx with hx | hx
      · exact ha x hx
      cases List.mem_singleton.mp hx
      have hwl := hw w (.head _)
      match w, q, hwl with
      | [], q, _ => cases q
      | [_], q, _ => cases q
      | c :: d :: t, q, hwl =>
        have q : (K86.freeL a c && decide (d = 61) && !t.isEmpty && K86.numsOk t) = true := q
        simp only [Bool.and_eq_true] at q
        obtain ⟨⟨⟨q1, _⟩, _⟩, q4⟩ := q
        have q1 : (K86.letr c && !K86.usd a c) = true := q1
        have hs := spc_len 44 t
        simp only [List.length_cons] at hwl
        refine ⟨(Bool.and_eq_true_iff.mp q1).1, ?_, fun x hx => ?_⟩
        · show ((K86.spc 44 t).map K86.val).length ≤ 700
          rw [List.length_map]
          omega
        · obtain ⟨p, hp, rfl⟩ := List.mem_map.mp (show x ∈ (K86.spc 44 t).map K86.val from hx)
          exact (K86.num_iff.mp (List.all_eq_true.mp q4 p hp)).2.2.2
  have hs := spc_len 32 l
  have h : (if (K86.num K86.top ((K86.spc 32 l).headD []) && decide ((K86.spc 32 l).length ≤ 9)) = true then (K86.placeP [] (K86.spc 32 l).tail).map fun u => (K86.val ((K86.spc 32 l).headD []), u) else none) = some (n, u) := h
  by_cases q : (K86.num K86.top ((K86.spc 32 l).headD []) && decide ((K86.spc 32 l).length ≤ 9)) = true
  case neg =>
    rw [if_neg q] at h
    cases h
  rw [if_pos q] at h
  cases e : K86.placeP [] (K86.spc 32 l).tail with
  | none =>
    rw [e] at h
    cases h
  | some v =>
    rw [e] at h
    cases h
    exact ⟨(K86.num_iff.mp (Bool.and_eq_true_iff.mp q).1).2.2.2, h8, main _ _ _ (fun w hw => Nat.le_trans (hs.2 w (List.mem_of_mem_tail hw)) hl) (fun _ z => absurd z List.not_mem_nil) e⟩
/-! ### sizes -/
theorem piled_le {m : Nat} : ∀ {ts : List Str}, (∀ t ∈ ts, t.length ≤ m) → piled ts ≤ ts.length * (m + 2)
  | [], _ => by rw [piled_nil]; exact Nat.zero_le _
  | t :: ts, h => by
    have h1 := h t (.head _)
    have h2 := piled_le (fun x hx => h x (.tail _ hx))
    rw [piled_cons, List.length_cons, Nat.succ_mul]
    omega
theorem join_le {m : Nat} {ts : List Str} (h : ∀ t ∈ ts, t.length ≤ m) : (Str.join ", " ts).length ≤ ts.length * (m + 2) := by
  by_cases e : ts = []
  · subst e
    exact Nat.le_trans (Nat.le_of_eq (show (Str.join ", " []).length = 0 from rfl)) (Nat.zero_le _)
  · have := join_length_add ts e
    have := piled_le h
    omega
theorem tuple_le {m : Nat} {ts : List Str} (h : ∀ t ∈ ts, t.length ≤ m) : (tupleText ts).length ≤ ts.length * (m + 2) + 3 := by
  have h1 := join_le h
  unfold tupleText
  rw [strLen_append, strLen_append]
  have h2 : (((if ts.length == 1 then ",)" else ")" : String) : Str)).length ≤ 2 := by split <;> decide
  have h3 : ((("(" : String) : Str)).length = 1 := rfl
  omega
theorem dict_le {m : Nat} {ts : List Str} (h : ∀ t ∈ ts, t.length ≤ m) : (dictText ts).length ≤ ts.length * (m + 2) + 2 := by
  have h1 := join_le h
  unfold dictText
  rw [strLen_append, strLen_append]
  have h2 : ((("{" : String) : Str)).length = 1 := rfl
  have h3 : ((("}" : String) : Str)).length = 1 := rfl
  omega
theorem num_le {n : Nat} (h : n ≤ 10 ^ 18) : (numD n).shown.length ≤ 19 := by
  show (Str.ofString (toString ((n : Nat) : Int))).length ≤ 19
  rw [num_S, S_len]
  exact TL.numL_len (by decide) (by omega)
theorem all_shown : ∀ ds : List PyData, PyData.shownAll ds = ds.map PyData.shown
  | [] => by simp only [PyData.shownAll, List.map_nil]
  | d :: ds => by simp only [PyData.shownAll, List.map_cons, all_shown ds]
theorem nums_le {ns : List Nat} (h1 : ns.length ≤ 700) (h2 : ∀ x ∈ ns, x ≤ 999999) : (PyData.tuple (ns.map numD)).shown.length ≤ 15000 := by
  have e : (PyData.tuple (ns.map numD)).shown = tupleText ((ns.map numD).map PyData.shown) := by rw [← all_shown]; simp only [PyData.shown]
  rw [e]
  have k := tuple_le (m := 19) (ts := (ns.map numD).map PyData.shown) (fun t ht => by
    obtain ⟨d, hd, rfl⟩ := List.mem_map.mp ht
    obtain ⟨x, hx, rfl⟩ := List.mem_map.mp hd
    exact num_le (by have := h2 x hx; omega))
  rw [List.length_map, List.length_map] at k
  omega
theorem sign_le {c : Nat} (h : K86.letr c = true) : (PyData.str (S [c])).shown.length ≤ 3 := by
  have k : ∀ i : Fin 26, (reprText (S [97 + i.val])).length ≤ 3 := by decide +kernel
  unfold K86.letr at h
  rw [Bool.and_eq_true, decide_eq_true_eq, decide_eq_true_eq] at h
  have q := k ⟨c - 97, by omega⟩
  rw [show 97 + (c - 97) = c from by omega] at q
  exact q
theorem kv_shown : ∀ kvs : List (PyData × PyData), PyData.shownKv kvs = kvs.map fun p => (p.1.shown ++ (": " : Str) ++ p.2.shown : Str)
  | [] => by simp only [PyData.shownKv, List.map_nil]
  | (a, b) :: r => by simp only [PyData.shownKv, List.map_cons, kv_shown r]
theorem vals_le {n : Nat} {u : K86.Vls} (f : FitU n u) : (PyData.dict (u.map entD)).shown.length ≤ 130000 := by
  have e : (PyData.dict (u.map entD)).shown = dictText ((u.map entD).map fun p => (p.1.shown ++ (": " : Str) ++ p.2.shown : Str)) := by rw [← kv_shown]; simp only [PyData.shown]
  rw [e]
  have k := dict_le (m := 15100) (ts := (u.map entD).map fun p => (p.1.shown ++ (": " : Str) ++ p.2.shown : Str)) (fun t ht => by
    obtain ⟨d, hd, rfl⟩ := List.mem_map.mp ht
    obtain ⟨x, hx, rfl⟩ := List.mem_map.mp hd
    obtain ⟨h1, h2, h3⟩ := f.ent x hx
    have k1 := sign_le h1
    have k2 := nums_le h2 h3
    have k3 : (((": " : String) : Str)).length = 2 := rfl
    rw [strLen_append, strLen_append]
    show (PyData.str (S [x.1])).shown.length + _ + (PyData.tuple (x.2.map numD)).shown.length ≤ _
    omega)
  rw [List.length_map, List.length_map] at k
  have := f.len
  have : u.length * (15100 + 2) ≤ 8 * (15100 + 2) := Nat.mul_le_mul_right _ f.len
  omega
theorem plc_le {n : Nat} {u : K86.Vls} (f : FitU n u) : (plD n u).shown.length ≤ 270000 := by
  have e : (plD n u).shown = tupleText ([numD n, PyData.dict (u.map entD)].map PyData.shown) := by rw [← all_shown]; simp only [plD, PyData.shown]
  rw [e]
  have h1 := num_le f.n
  have h2 := vals_le f
  have k := tuple_le (m := 130000) (ts := [numD n, PyData.dict (u.map entD)].map PyData.shown) (fun t ht => by
    simp only [List.map_cons, List.map_nil, List.mem_cons, List.not_mem_nil, or_false] at ht
    rcases ht with rfl | rfl
    · omega
    · exact h2)
  have e2 : ([numD n, PyData.dict (u.map entD)].map PyData.shown).length = 2 := rfl
  rw [e2] at k
  omega
theorem rtx_eq (n : Nat) (u : K86.Vls) : rtx n u = listText [(plD n u).shown] := by
  unfold rtx
  simp only [PyData.shown, PyData.shownAll]
theorem rtx_le {n : Nat} {u : K86.Vls} (f : FitU n u) : (listText [(plD n u).shown]).length ≤ sizeLine := by
  have h := plc_le f
  have e : listText [(plD n u).shown] = (("[" : Str) ++ (if (0 : Nat) > 0 then ", " else "" : String) ++ (plD n u).shown) ++ "]" := rfl
  rw [e, strLen_append, strLen_append, strLen_append]
  have e1 : ((("[" : String) : Str)).length = 1 := rfl
  have e2 : ((("]" : String) : Str)).length = 1 := rfl
  have e3 : (((if (0 : Nat) > 0 then ", " else "" : String) : Str)).length = 0 := rfl
  have e4 : sizeLine = 2 ^ 24 := rfl
  omega
/-! ### it may be shown -/
theorem all_showable : ∀ ds : List PyData, (∀ d ∈ ds, d.showable = true) → PyData.showableAll ds = true
  | [], _ => by simp only [PyData.showableAll]
  | d :: ds, h => by
    simp only [PyData.showableAll, Bool.and_eq_true]
    exact ⟨h d (.head _), all_showable ds fun x hx => h x (.tail _ hx)⟩
theorem kv_showable : ∀ ds : List (PyData × PyData), (∀ d ∈ ds, d.1.showable = true ∧ d.2.showable = true) → PyData.showableKv ds = true
  | [], _ => by simp only [PyData.showableKv]
  | (a, b) :: ds, h => by
    simp only [PyData.showableKv, Bool.and_eq_true]
    exact ⟨h (a, b) (.head _), kv_showable ds fun x hx => h x (.tail _ hx)⟩
theorem num_showable {n : Nat} (h : n ≤ 10 ^ 18) : (numD n).showable = true := by
  unfold numD
  simp only [PyData.showable]
  exact decide_eq_true (log_le h)
theorem plc_showable {n : Nat} {u : K86.Vls} (f : FitU n u) : (plD n u).showable = true := by
  unfold plD
  simp only [PyData.showable]
  refine all_showable _ fun d hd => ?_
  simp only [List.mem_cons, List.not_mem_nil, or_false] at hd
  rcases hd with rfl | rfl
  · exact num_showable f.n
  · simp only [PyData.showable]
    refine kv_showable _ fun d hd => ?_
    obtain ⟨x, hx, rfl⟩ := List.mem_map.mp hd
    obtain ⟨h1, h2, h3⟩ := f.ent x hx
    unfold entD
    simp only [PyData.showable, true_and]
    refine all_showable _ fun d hd => ?_
    obtain ⟨y, hy, rfl⟩ := List.mem_map.mp hd
    exact num_showable (by have := h3 y hy; omega)
theorem all_depth {m : Nat} : ∀ ds : List PyData, (∀ d ∈ ds, d.depth ≤ m) → PyData.depthAll ds ≤ m
  | [], _ => by simp only [PyData.depthAll]; exact Nat.zero_le _
  | d :: ds, h => by
    have h1 := h d (.head _)
    have h2 := all_depth ds fun x hx => h x (.tail _ hx)
    simp only [PyData.depthAll]
    omega
theorem kv_depth {m : Nat} : ∀ ds : List (PyData × PyData), (∀ d ∈ ds, d.1.depth ≤ m ∧ d.2.depth ≤ m) → PyData.depthKv ds ≤ m
  | [], _ => by simp only [PyData.depthKv]; exact Nat.zero_le _
  | (a, b) :: ds, h => by
    have h1 : a.depth ≤ m ∧ b.depth ≤ m := h (a, b) (.head _)
    have h2 := kv_depth ds fun x hx => h x (.tail _ hx)
    simp only [PyData.depthKv]
    omega
theorem num_depth (n : Nat) : (numD n).depth = 0 := by
  unfold numD
  simp only [PyData.depth]
theorem plc_depth (n : Nat) (u : K86.Vls) : (plD n u).depth ≤ 3 := by
  have k1 : ∀ ns : List Nat, (PyData.tuple (ns.map numD)).depth ≤ 1 := fun ns => by
    simp only [PyData.depth]
    have := all_depth (m := 0) (ns.map numD) fun d hd => by
      obtain ⟨x, _, rfl⟩ := List.mem_map.mp hd
      exact Nat.le_of_eq (num_depth x)
    omega
  have k2 : (PyData.dict (u.map entD)).depth ≤ 2 := by
    simp only [PyData.depth]
    have := kv_depth (m := 1) (u.map entD) fun d hd => by
      obtain ⟨x, _, rfl⟩ := List.mem_map.mp hd
      refine ⟨?_, k1 x.2⟩
      unfold entD
      simp only [PyData.depth]
      exact Nat.zero_le _
    omega
  unfold plD
  simp only [PyData.depth]
  have := all_depth (m := 2) [numD n, PyData.dict (u.map entD)] fun d hd => by
    simp only [List.mem_cons, List.not_mem_nil, or_false] at hd
    rcases hd with rfl | rfl
    · rw [num_depth]; omega
    · exact k2
  omega
end W86

-- W86q
set_option Elab.async false
set_option linter.all false
set_option maxRecDepth 100000
set_option maxHeartbeats 4000000
namespace W86
open PySem L2 PySem.Spec PyProof.Rows
/-! ### repr of a list with a place in it -/
theorem rd_ints {h : Heap} : ∀ {ns : List Nat} {its : List Value}, Vals (iv ns) its → ReadsAll h its (ns.map numD) []
  | [], _, .nil => .nil
  | n :: ns, _, .cons r rs => by
    obtain ⟨t, rfl⟩ := (show ∃ t, _ = Value.int n t from r)
    exact .cons (as := []) (bs := []) (.int _ _) (rd_ints rs)
theorem rd_ents {P : Program} {w : World} {H : Hp} {h : Heap} (ok : HOk P w H h) : ∀ {u : K86.Vls} {kvs : List (Key × V)} {vs : List (Key × Value)} {es : List DictEntry}, Paired (EntAt H) u kvs → KV kvs vs → PySem.Pairs (mixKind P w) es vs →
    ReadsAll h (es.map (·.key)) ((u.map entD).map (·.1)) [] ∧ ReadsAll h (es.map (·.val)) ((u.map entD).map (·.2)) []
  | _, _, _, _, .nil, .nil, .nil => ⟨.nil, .nil⟩
  | _, _, _, _, .cons ⟨a1, t, a2, a3⟩ r1, .cons ⟨b1, b2⟩ r2, .cons c1 c2 r3 => by
    obtain ⟨k1, k2⟩ := rd_ents ok r1 r2 r3
    refine ⟨.cons (as := []) (bs := []) ?_ k1, .cons (as := []) (bs := []) ?_ k2⟩
    · rw [← b1, a1] at c1
      obtain ⟨tk, e⟩ := Value.isStrOf_shape c1
      dsimp only
      rw [e]
      exact .str _ _
    · rw [a2] at b2
      dsimp only
      rw [c2, show _ = Value.ref t from b2]
      obtain ⟨_, its, rv, o, h1, h2, n, h3⟩ := (show ObjOk P w H h t (.tup _) from ok t _ a3)
      exact .tuple h1 h2 h3 (by simpa using rd_ints rv)
theorem rd_place {P : Program} {w : World} {H : Hp} {h : Heap} (ok : HOk P w H h) {p : Addr} {n : Nat} {u : K86.Vls} (hp : PlAt H p n u) : ∃ d, d ≠ sysModules ∧ Reads h (.ref p) (plD n u) [d] := by
  obtain ⟨d, h1, kvs, h2, h3⟩ := hp
  obtain ⟨_, its, rv, o, g1, g2, m, g3⟩ := (show ObjOk P w H h p (.tup _) from ok p _ h1)
  obtain ⟨_, nd, vs, kv, od, es, ep, e1, e2, e3, _, e4, _⟩ := (show ObjOk P w H h d (.dK kvs) from ok d _ h2)
  obtain ⟨k1, k2⟩ := rd_ents ok h3 kv e4
  refine ⟨d, (fun z => Bool.noConfusion ((show (d == sysModules) = true by rw [z]; rfl).symm.trans nd)), .tuple g1 g2 g3 ?_⟩
  cases rv with
  | cons r1 r2 =>
    cases r2 with
    | cons r2 r3 =>
      cases r3
      obtain ⟨t, rfl⟩ := (show ∃ t, _ = Value.int n t from r1)
      rw [show _ = Value.ref d from r2]
      exact .cons (as := []) (bs := [d]) (.int _ _) (.cons (as := [d]) (bs := []) (.dict (as := []) (bs := []) e1 e2.1 e3 k1 k2) .nil)
def rRep : List V → Hp → VK → Prop := fun xs H Q => ∃ (l p : Addr) (n : Nat) (u : K86.Vls), xs = [.ref l] ∧ H l = some (.lst [.ref p]) ∧ PlAt H p n u ∧ FitU n u ∧ Q (.str (rtx n u)) H
section
variable {X : Cx}
theorem call_rep (hg : X.A.guards = some []) (hu : X.A.units + 8 < cLine) : CallR X (.builtin "repr") rRep := by
  intro pins s σ H xs us Q I r h
  obtain ⟨l, p, n, u, rfl, hl, hp, f, q⟩ := h
  obtain ⟨v, rfl, r1⟩ := vals1 r
  cases (show v = Value.ref l from r1)
  obtain ⟨_, its, m, rv, g⟩ := (show ObjOk X.prog X.w H s.heap l (.lst _) from I.hok l _ hl)
  obtain ⟨v, rfl, r2⟩ := vals1 rv
  cases (show v = Value.ref p from r2)
  obtain ⟨d, nd, R⟩ := rd_place I.hok hp
  have RA : ReadsAll s.heap [.ref p] [plD n u] [d] := .cons (as := [d]) (bs := []) R .nil
  have RL : Reads s.heap (.ref l) (.list [plD n u]) [l, d] := .list g rfl rfl RA
  have sh : PyData.shownAll [plD n u] = [(plD n u).shown] := by simp only [PyData.shownAll]
  have dp : PyData.depthAll [plD n u] ≤ 3 := all_depth _ fun x hx => by
    cases List.mem_singleton.mp hx
    exact plc_depth n u
  have zz := rtx_le f
  obtain ⟨bs, hb, hk⟩ := ReprAllK.of_readsAll (prog := X.prog) (w := X.w) RA (all_showable _ fun x hx => by
      cases List.mem_singleton.mp hx
      exact plc_showable f) (fun _ hm => nd (List.mem_singleton.mp hm).symm) (fun t ht => by
      rw [sh] at ht
      cases List.mem_singleton.mp ht
      have := plc_le f
      have e4 : sizeLine = 2 ^ 24 := rfl
      omega)
  rw [sh] at hk
  have na : l ∉ bs := not_mem_of_deeper RL (by simp only [PyData.depth]; omega) hb
  refine call_repr_slot (by omega) ⟨_, g, rfl⟩ F.slot_list_repr.toG ?_
  refine call_list_reprK g rfl rfl na (by simpa using hk.length_eq) (fun i y e => hk.item i y (by simpa using e)) hg (fun b _ => Clear.nil b) ?_ (fun _ _ e => e) (fun h' uu tk ke => ⟨_, _, rfl, ?_⟩) zz
  · show X.A.units + 1 + _ < cLine
    omega
  · rw [← rtx_eq]
    exact ⟨.str (rtx n u), H, I.kept ke, ⟨_, rfl⟩, q⟩
end
end W86

-- W86r
set_option Elab.async false
set_option linter.all false
set_option maxRecDepth 100000
set_option maxHeartbeats 4000000
namespace W86
open PySem L2 PySem.Spec PyProof.Rows

theorem scLaw : FnScope ["_law_script", "_law_pen_here", "_law_lines", "_law_turn", "_law_bend", "_law_line", "_law_place", "_law_due"] ["_law_script"] (defScope (st 30)) := ⟨rfl, rfl, rfl, by decide +kernel, rfl, by decide +kernel, by decide +kernel⟩
/-- the lambda's name -/
def lawLam : Str := (envOfC "law" (defScope (st 30)) 0 0 .none).qual ++ "<lambda>"
def rRep2 : List V → Hp → VK → Prop := fun xs H Q => (∃ i : Int, xs = [.int i] ∧ i.natAbs.log2 < 1920 ∧ Q (.str (toString i)) H) ∨ rRep xs H Q
theorem call_rep2 {X : Cx} (hg : X.A.guards = some []) (hu : X.A.units + 8 < cLine) : CallR X (.builtin "repr") rRep2 := by
  intro pins s σ H xs us Q I r h
  rcases h with h | h
  · exact SkE.call_repr_int pins s σ H xs us Q I r h
  · exact call_rep hg hu pins s σ H xs us Q I r h
/-- the codes of a text of the source -/
def code (s : String) : List Nat := s.toList.map Char.toNat
theorem lit_txs (ss : List String) : (ss.map fun s => V.str (Str.ofString s)) = txs (ss.map code) := by
  unfold txs
  rw [List.map_map]
  exact List.map_congr_left fun s _ => congrArg V.str (S_of s)
def litS : List String := ["", " ", "0", "00", "0 ", "01 a=1", "1000000000000000000", "1000000000000000001", "10000000000000000000", "5 a=", "5 a=1,", "5 a=1 a=2", "5 a=1,2 b", "5 a=01", "5 a=1000000", "5  a=1", "5 A=1", "5 a=1 ", "-1", "5 ab=1", "5 a 1", "5a=1", "5 a=1 b=2 c=3 d=4 e=5 f=6 g=7 h=8", "5 a=1 b=2 c=3 d=4 e=5 f=6 g=7 h=8 i=9"]
def LineOk (z : List Nat) : Prop := z.length ≤ 600 ∧ Asc z
theorem lit_ok : ∀ z ∈ litS.map code, LineOk z := by
  have k : ∀ z ∈ litS.map code, z.length ≤ 600 ∧ ∀ c ∈ z, c < 128 := by decide +kernel
  exact k
theorem But.keep {q g b : Addr} {H H' : Hp} {o : HO} {n : Nat} (bt : But q H H') (hP : PenAt H q g n) (hb : H b = some o) (ne : ∀ kvs, o ≠ .dK kvs) : H' b = some o := by
  obtain ⟨kvs, hq⟩ := hP.there
  exact bt b o (ne_of hb hq (ne kvs)) hb
/-- behind i drawn lines -/
def iv1 (a q g L P0 : Addr) : Nat → L2.St → Hp → Prop := fun i σ H' => ∃ (ls : List (List Nat)) (t b z : Option V), σ = [some (.ref a), some (.ref q), some (.ref L), t, b, z, none, none] ∧
  H' L = some (.lst (txs ls)) ∧ (∀ z ∈ ls, LineOk z) ∧ ls.length = 24 + i ∧ PenAt H' q g (i * 110) ∧ H' P0 = some (.tbl #[])
/-- behind j bends -/
def iv2 (a q g L P0 : Addr) (t : Option V) (ls : List (List Nat)) (m : Nat) : Nat → L2.St → Hp → Prop := fun j σ H' => ∃ (b : Option V) (z : List Nat), σ = [some (.ref a), some (.ref q), some (.ref L), t, b, some (.str (S z)), none, none] ∧
  H' L = some (.lst (txs ls)) ∧ z.length ≤ 400 + 4 * j ∧ Asc z ∧ PenAt H' q g (m + 4 * j) ∧ H' P0 = some (.tbl #[])
def menuS : List String := ["0", "9", " ", ",", "=", "a", "b", "z", "A", ".", "-", " a=1", "00", "\n"]
theorem menu_ok : Menu (menuS.map fun s => V.str (Str.ofString s)) := by
  have k : ∀ z ∈ menuS, (code z).length ≤ 4 ∧ ∀ c ∈ code z, c < 128 := by decide +kernel
  refine ⟨by decide, by decide, fun x hx => ?_⟩
  obtain ⟨z, hz, rfl⟩ := List.mem_map.mp hx
  exact ⟨code z, congrArg V.str (S_of z), k z hz⟩
theorem txs_ne {ls : List (List Nat)} {ks : List Int} (h : 0 < ls.length) : HO.lst (txs ls) ≠ HO.lst (ks.map V.int) := fun z => by
  have z : txs ls = ks.map V.int := HO.lst.inj z
  match ls, ks, h, z with
  | l :: ls, k :: ks, _, z => exact nomatch (List.cons.inj z).1
theorem txs_snoc (ls : List (List Nat)) (z : List Nat) : txs (ls ++ [z]) = txs ls ++ [V.str (S z)] := by
  unfold txs
  rw [List.map_append]
  rfl
theorem tabs_one {p : Addr × Str} {H : Hp} (h : LamX.TabS H p.1 p.2) : LamX.Tabs [p] H := fun x hx => by
  cases List.mem_singleton.mp hx
  exact h
/-- the lines are asked -/
def iv2L (a q L P0 : Addr) (ls : List (List Nat)) (t b : Option V) : Nat → L2.St → Hp → Prop := fun _ σ H' => ∃ z p d : Option V, σ = [some (.ref a), some (.ref q), some (.ref L), t, b, z, p, d] ∧ H' L = some (.lst (txs ls)) ∧ LamX.Tabs [(P0, lawLam)] H'
theorem PlAt.mono {H H' : Hp} {p : Addr} {n : Nat} {u : K86.Vls} (h : PlAt H p n u) (k1 : ∀ t xs, H t = some (.tup xs) → H' t = some (.tup xs)) (k2 : ∀ d kvs, H d = some (.dK kvs) → H' d = some (.dK kvs)) : PlAt H' p n u := by
  obtain ⟨d, h1, kvs, h2, h3⟩ := h
  exact ⟨d, k1 _ _ h1, kvs, k2 _ _ h2, ents_mono k1 h3⟩
theorem PlAt.extn {H H' : Hp} {p : Addr} {n : Nat} {u : K86.Vls} (h : PlAt H p n u) (e : LamX.ExtN H H') : PlAt H' p n u :=
  h.mono (fun _ _ q => e _ _ q (by intro _ z; cases z)) fun _ _ q => e _ _ q (by intro _ z; cases z)
theorem PlAt.lset {H : Hp} {p l : Addr} {n : Nat} {u : K86.Vls} {xs ys : List V} (h : PlAt H p n u) (e : H l = some (.lst xs)) : PlAt (upd H l (.lst ys)) p n u :=
  h.mono (fun t _ q => by rw [upd_ne (ne_of q e (by intro z; cases z))]; exact q) fun d _ q => by rw [upd_ne (ne_of q e (by intro z; cases z))]; exact q
theorem tabs_lset {T : List (Addr × Str)} {H : Hp} {l : Addr} {xs ys : List V} (t : LamX.Tabs T H) (e : H l = some (.lst xs)) : LamX.Tabs T (upd H l (.lst ys)) := fun p hp => by
  obtain ⟨ps, h1, h2, h3⟩ := t p hp
  refine ⟨ps, by rw [upd_ne (ne_of h1 e (by intro z; cases z))]; exact h1, h2, fun pos cv hc => ?_⟩
  obtain ⟨c, e1, e2⟩ := h3 pos cv hc
  refine ⟨c, e1, ?_⟩
  rw [upd_ne (ne_of e2 e (by intro z; unfold LamX.CodeO at z; cases z))]
  exact e2
theorem cat_read {H : Hp} {L : Addr} {xs ys : List V} {Q : VK} (e : H L = some (.lst xs)) (hz : xs.length + ys.length ≤ sizeLine) (k : ∀ (L3 : Addr) (H3 : Hp), H3 L3 = some (.lst (xs ++ ys)) → Same H H3 → Q (.ref L3) H3) :
    ∀ L2, H L2 = none → rCat (.ref L) (.ref L2) (upd H L2 (.lst ys)) Q := fun L2 h2 => by
  have n2 : L ≠ L2 := ne_of_none e h2
  refine ⟨L, L2, xs, ys, rfl, rfl, ?_, upd_same, hz, fun p hp => k p _ upd_same ((same_new h2).trans (same_new hp))⟩
  rw [upd_ne n2]
  exact e
theorem lst_read {H : Hp} {xs : List V} {Q : VK} (k : ∀ (L : Addr) (H1 : Hp), H1 L = some (.lst xs) → Same H H1 → Q (.ref L) H1) : ∀ L, H L = none → Q (.ref L) (upd H L (.lst xs)) := fun L h => k L _ upd_same (same_new h)
theorem lam_only {P0 : Addr} {q : Str} : ∀ p ∈ [(P0, q)], p.1 = P0 → p.2 = q := fun p hp _ => by
  cases List.mem_singleton.mp hp
  rfl
section
variable {P : Program} {w : World} {K : PySem.W.Frag} {mg : Str → Option Value} {base : Heap}
/-- the law's defs -/
structure Defs (P : Program) (w : World) (K : PySem.W.Frag) (mg : Str → Option Value) (base : Heap) (C : Addr) : Prop where
  B : Bl mg
  T : PEx K C
  gV : mg "ValueError" = none
  gC : mg "ParseError" = some (.ref C)
  no : PySem.W.findIn K (.ref C) "offset" = some none
  cPn : Cl P w K mg base L2.CX0 1 "_law_pen" ["_law_script"] (spPn K)
  cDr : Cl P w K mg base L2.CX0 1 "_law_draw" ["_law_pen_here", "_law_count"] spDr
  cDP : Cl P w K mg base L2.CX0 5 "_law_drawn_place" ["_law_pen_here"] spDP
  cPL : Cl P w K mg base L2.CX0 1 "_law_place_line" ["_law_place"] spPL
  cBn : Cl P w K mg base L2.CX0 4 "_law_bent" ["_law_pen_here", "_law_line", "_law_signs"] spBn
  cPO : Cl P w K mg base L2.CX0 5 "_law_place_of" ["_law_line"] spPO
  cLG : Cl P w K mg base L2.CX0 7 "_law_longest" ["_law_line"] spLG
  cPP : Cl P w K mg base (L2.CX P w) 6 "parse_place" ["line"] (spPP C)
  px : ∃ (g : Addr) (fd : FuncData), mg "_law_parse_error" = some (.ref g) ∧ Fun K "_law_parse_error" "_law_parse_error" (st 21) g fd ∧ L2.Binds K fd ["_law_call"] []
theorem law_walk {C f c P0 a : Addr} {ns : List Int} {s : Shared} {H : Hp} {E : XK} (D : Defs P w K mg base C) (TB : LamX.TabB base mg c P0) (hS : SqL K H a (ns.map V.int)) (hl : ns.length ≤ 63) (h0 : H P0 = some (.tbl #[]))
    (hr : Room 8 (callerA.deeper (envOfC "law" (defScope (st 30)) s.heap.objs.size f (.ref c)))) :
    ∃ t, PSs (cxOf L2.CX0 P w K mg base ["_law_script", "_law_pen_here", "_law_lines", "_law_turn", "_law_bend", "_law_line", "_law_place", "_law_due"] "law" (defScope (st 30)) f (.ref c) callerA [] s H E) (defBody (st 30)) t ∧ t { nx := fun _ _ => V.non = V.bl true, rt := fun v _ => v = .bl true } (L2.start ["_law_script", "_law_pen_here", "_law_lines", "_law_turn", "_law_bend", "_law_line", "_law_place", "_law_due"] [.ref a]) H := by
  obtain ⟨B, T, gV, gC, no, cPn, cDr, cDP, cPL, cBn, cPO, cLG, cPP, gx, fx, hmG, ⟨⟨oc, od, kV, doc, pm, an, cdv, ct, osl, rfl, lkG, hcG⟩, hkG⟩, hbG⟩ := D
  have hgu : (callerA.deeper (envOfC "law" (defScope (st 30)) s.heap.objs.size f (.ref c))).units + 8 < cLine := by have := hr.un; omega
  refine ⟨_, ((pss_cons (ps_set (i := 1) scLaw.nd rfl (Or.inl rfl) (by exact (pe_cl cPn hr (by decide) rfl pass0 (by exact (pa_cons (pv 0) pa_nil)))))
      (pss_cons (ps_set (i := 2) scLaw.nd rfl (Or.inl rfl) (pe_lst (pa_cons pe_str (pa_cons pe_str (pa_cons pe_str (pa_cons pe_str (pa_cons pe_str (pa_cons pe_str (pa_cons pe_str (pa_cons pe_str pa_nil))))))))))
      (pss_cons (ps_set (i := 2) scLaw.nd rfl (Or.inl rfl) (pe_op op_cat (pv 2) (pe_lst (pa_cons pe_str (pa_cons pe_str (pa_cons pe_str (pa_cons pe_str (pa_cons pe_str (pa_cons pe_str (pa_cons pe_str pa_nil))))))))))
      (pss_cons (ps_set (i := 2) scLaw.nd rfl (Or.inl rfl) (pe_op op_cat (pv 2) (pe_lst (pa_cons pe_str (pa_cons pe_str (pa_cons pe_str (pa_cons pe_str (pa_cons pe_str (pa_cons pe_str (pa_cons pe_str pa_nil))))))))))
      (pss_cons (ps_set (i := 2) scLaw.nd rfl (Or.inl rfl) (pe_op op_cat (pv 2) (pe_lst (pa_cons pe_str (pa_cons pe_str pa_nil)))))
      (pss_cons (ps_for PassesOwn.never rfl (pi_range1 rfl B.range (pa_cons (pe_op op_add pe_int (pe_callB (call_min2 rfl) (by rfl) B.min (by decide +kernel) (pa_cons pe_int (pa_cons (pe_op op_mul pe_int (pe_callB call_len_seq (by rfl) B.len PySem.boot_len (pa_cons (pv 0) pa_nil))) pa_nil)))) pa_nil)) (pg_name (i := 3) scLaw.nd rfl (Or.inl rfl)) (pss_cons (ps_set (i := 5) scLaw.nd rfl (Or.inr rfl) (by exact (pe_cl cPL hr (by decide) rfl pass0 (by exact (pa_cons (by exact (pe_cl cDP hr (by decide) rfl pass0 (by exact (pa_cons (pv 1) pa_nil)))) pa_nil)))))
      (pss_cons (ps_for PassesOwn.never rfl (pi_range1 rfl B.range (pa_cons (pe_op op_add pe_int (by exact (pe_cl cDr hr (by decide) rfl pass0 (by exact (pa_cons (pv 1) (pa_cons pe_int pa_nil)))))) pa_nil)) (pg_name (i := 4) scLaw.nd rfl (Or.inl rfl)) (pss_one (ps_set (i := 5) scLaw.nd rfl (Or.inr rfl) (by exact (pe_cl cBn hr (by decide) rfl pass0 (by exact (pa_cons (pv 1) (pa_cons (pv 5) (pa_cons (pe_lst (pa_cons pe_str (pa_cons pe_str (pa_cons pe_str (pa_cons pe_str (pa_cons pe_str (pa_cons pe_str (pa_cons pe_str (pa_cons pe_str (pa_cons pe_str (pa_cons pe_str (pa_cons pe_str (pa_cons pe_str (pa_cons pe_str (pa_cons pe_str pa_nil))))))))))))))) pa_nil)))))))))
      (pss_one (ps_expr (pe_bm PySem.F.plainAttrs_list PySem.F.slot_list_append PySem.F.type_list_append mt_append (pv 2) (pa_cons (pv 5) pa_nil)))))))
      (pss_cons (ps_for PassesOwn.never rfl (pi_list (pv 2)) (pg_name (i := 5) scLaw.nd rfl (Or.inr rfl)) (pss_cons (ps_set (i := 6) scLaw.nd rfl (Or.inl rfl) (by exact (pe_cl cPO hr (by decide) rfl pass0 (by exact (pa_cons (pv 5) pa_nil)))))
      (pss_cons (ps_set (i := 7) scLaw.nd rfl (Or.inl rfl) (pe_ifExp (pt_cmpR op_notN (pv 6) pe_non (nomark _)) (pe_lst (pa_cons (pv 6) pa_nil)) (by exact (pe_cl cLG hr (by decide) rfl pass0 (by exact (pa_cons (pv 5) pa_nil))))))
      (pss_one (ps_if (pt_cmpR op_ne (pe_callB (call_rep2 rfl hgu) (by rfl) B.repr (by decide +kernel) (pa_cons (by exact (LamX.pe_lamcall (T := [(P0, lawLam)]) (c := c) (P := P0) (k := 6) (t := fun E => tCall (spPP C) [] E (tCons (tVar 5) tNil)) rfl hmG hkG lkG hcG hbG scPX rfl (Or.inl rfl) (px_gives B T gV gC no) TB rfl (by exact List.mem_singleton.mpr rfl) (by exact lam_only) (hr.mono (by decide)) (LamX.lamS_by (by show LamX.lamSB (defScope (st 30)) _ = true; decide +kernel)) (by rfl) (fun _ _ _ _ _ => rfl) (fun A outer s H E f c' hr' => by exact (pe_cl cPP hr' (by decide) rfl (passes_call (takes_of rfl rfl rfl rfl) fun _ _ _ _ z => z) (by exact (pa_cons (pv 5) pa_nil)))))) pa_nil)) (pe_callB (call_rep2 rfl hgu) (by rfl) B.repr (by decide +kernel) (pa_cons (pv 7) pa_nil)) (nomark _)) (pss_one (ps_ret pe_bl)) pss_nil)))))
      (pss_one (ps_ret pe_bl))))))))) : PSs (cxOf L2.CX0 P w K mg base ["_law_script", "_law_pen_here", "_law_lines", "_law_turn", "_law_bend", "_law_line", "_law_place", "_law_due"] "law" (defScope (st 30)) f (.ref c) callerA [] s H E).nox _ _).nox, ?_⟩
  refine ⟨_, rfl, a, ns, rfl, hS, hl, fun q g H1 hP1 s1 => ?_⟩
  refine ⟨by decide, fun L1 hL1 => ?_⟩
  have e2 : (upd H1 L1 (.lst [V.str "", V.str " ", V.str "0", V.str "00", V.str "0 ", V.str "01 a=1", V.str "1000000000000000000", V.str "1000000000000000001"])) L1 = some (.lst [V.str "", V.str " ", V.str "0", V.str "00", V.str "0 ", V.str "01 a=1", V.str "1000000000000000000", V.str "1000000000000000001"]) := upd_same
  have s2 : Same H1 (upd H1 L1 (.lst [V.str "", V.str " ", V.str "0", V.str "00", V.str "0 ", V.str "01 a=1", V.str "1000000000000000000", V.str "1000000000000000001"])) := same_new hL1
  generalize upd H1 L1 (.lst [V.str "", V.str " ", V.str "0", V.str "00", V.str "0 ", V.str "01 a=1", V.str "1000000000000000000", V.str "1000000000000000001"]) = H2 at e2 s2 ⊢
  refine ⟨_, rfl, by decide, cat_read e2 (by decide) fun L2 H3 e3 s3 => ?_⟩
  refine ⟨_, rfl, by decide, cat_read e3 (by decide) fun L3 H4 e4 s4 => ?_⟩
  refine ⟨_, rfl, by decide, cat_read e4 (by decide) fun L H5 e5 s5 => ?_⟩
  have sm : Same H H5 := s1.trans (s2.trans (s3.trans (s4.trans s5)))
  have hP5 : PenAt H5 q g 0 := hP1.same (s2.trans (s3.trans (s4.trans s5)))
  have e5 : H5 L = some (.lst (txs (litS.map code))) := by
    rw [← lit_txs]
    exact e5
  have h5 := sm _ _ h0
  have hS5 := sm.seq hS
  clear e2 s2 e3 s3 e4 s4 s5 s1 hP1 hL1
  -- the drawn lines
  refine ⟨_, rfl, a, _, rfl, .inl hS5, 2, _, rfl, rfl, .inl ⟨by decide, by decide⟩, _, _, rfl, _, _, rfl, rfl, _, rfl, ?_⟩
  rw [List.length_map]
  obtain ⟨N, hN, hN2⟩ : ∃ N : Nat, (8 + (if 2 * (ns.length : Int) < 16 then 2 * (ns.length : Int) else 16) : Int) = N ∧ N ≤ 24 := ⟨(8 + (if 2 * (ns.length : Int) < 16 then 2 * (ns.length : Int) else 16) : Int).toNat, by split <;> omega, by split <;> omega⟩
  rw [hN]
  refine ⟨by omega, by omega, for_range (iv1 a q g L P0) ⟨_, none, none, none, rfl, e5, lit_ok, by rw [List.length_map]; rfl, hP5, h5⟩ (fun i σ Hc hi h => ?_) (fun σ Hc h => ?_)⟩
  · obtain ⟨ls, tv, bv, zv, rfl, hL, hok, hlen, hP, hT⟩ := h
    have hi : i < 24 := by have : (N : Int).toNat = N := Int.toNat_natCast N; omega
    refine ⟨_, rfl, q, g, i * 110, rfl, by omega, hP, fun p Hd hD hPd bd => ⟨p, rfl, hD, fun z He hz hA se => ?_⟩⟩
    have hLe := se _ _ (bd.keep hP hL (by intro _ z; cases z))
    have hTe := se _ _ (bd.keep hP hT (by intro _ z; cases z))
    have hPe := hPd.same se
    refine ⟨_, rfl, q, g, 2, _, rfl, by decide, by decide, by omega, hPe, fun x Hf x0 x1 hPf bf => ⟨_, _, rfl, rfl, _, rfl, by omega, by omega, for_range (iv2 a q g L P0 (some (.int (0 + (i : Int)))) ls (i * 110 + 100 + 1)) ?_ (fun j σ Hc hj h => ?_) (fun σ Hc h => ?_)⟩⟩
    · exact ⟨bv, z, rfl, bf.keep hPe hLe (by intro _ z; cases z), by omega, hA, hPf, bf.keep hPe hTe (by intro _ z; cases z)⟩
    · obtain ⟨b2, z2, rfl, hL2, hz2, hA2, hP2, hT2⟩ := h
      refine ⟨_, rfl, _, rfl, by decide, fun M hM => ?_⟩
      refine ⟨q, g, M, z2, _, _, rfl, by omega, by omega, hA2, hP2.upd (hP2.ne hM), upd_same, menu_ok, fun z3 Hg hz3 hA3 hP3 bg => ?_⟩
      have hj' : j < 2 := by
        have e : (1 + x : Int) ≤ 2 := by omega
        have : ((1 + x : Int).toNat) ≤ 2 := by omega
        omega
      have hq2 := hP2.upd (o := .lst (menuS.map fun s => V.str (Str.ofString s))) (hP2.ne hM)
      have hL3 : (upd Hc M (.lst (menuS.map fun s => V.str (Str.ofString s)))) L = some (.lst (txs ls)) := by
        rw [upd_ne (ne_of_none hL2 hM)]
        exact hL2
      have hT3 : (upd Hc M (.lst (menuS.map fun s => V.str (Str.ofString s)))) P0 = some (.tbl #[]) := by
        rw [upd_ne (ne_of_none hT2 hM)]
        exact hT2
      exact ⟨_, z3, rfl, bg.keep hq2 hL3 (by intro _ z; cases z), by omega, hA3, hP3.mono (by omega), bg.keep hq2 hT3 (by intro _ z; cases z)⟩
    · obtain ⟨b2, z2, rfl, hL2, hz2, hA2, hP2, hT2⟩ := h
      have hj' : ((1 + x : Int).toNat) ≤ 2 := by omega
      refine ⟨_, rfl, (.inl ⟨rfl, _, SqL.of hL2⟩), _, rfl, L, _, _, rfl, rfl, hL2, ?_, ?_⟩
      · rw [strs_len]
        have e4 : sizeLine = 2 ^ 24 := rfl
        omega
      · have nP : P0 ≠ L := ne_of hT2 hL2 (by intro z; cases z)
        obtain ⟨kq, hkq⟩ := hP2.there
        obtain ⟨kc, hkc⟩ := hP2.cells
        have nq : L ≠ q := ne_of hL2 hkq (by intro z; cases z)
        have ng : L ≠ g := ne_of hL2 hkc (txs_ne (by omega))
        refine ⟨ls ++ [z2], _, b2, _, rfl, ?_, fun y hy => ?_, ?_, (hP2.mono (by omega)).upd ⟨nq, ng⟩, ?_⟩
        · rw [upd_same, txs_snoc]
        · rcases List.mem_append.mp hy with hy | hy
          · exact hok y hy
          · cases List.mem_singleton.mp hy
            exact ⟨by omega, hA2⟩
        · rw [List.length_append, List.length_singleton, hlen]
          omega
        · rw [upd_ne nP]
          exact hT2
  · obtain ⟨ls, tv, bv, zv, rfl, hL, hok, hlen, _, hT⟩ := h
    have hlen : ls.length ≤ 48 := by have : (N : Int).toNat = N := Int.toNat_natCast N; omega
    refine ⟨_, rfl, L, rfl, ⟨_, SqL.of hL⟩, for_list (K := K) (a := L) (xs := txs ls) (iv2L a q L P0 ls tv bv) ⟨zv, none, none, rfl, hL, tabs_one (LamX.TabS.nil hT)⟩ (fun i σ H' _ q => let ⟨_, _, _, _, e, _⟩ := q; SqL.of e) (fun i x σ Hc hx h => ?_) (fun σ Hd h => ?_)⟩
    · obtain ⟨l, hl, rfl⟩ := txs_get hx
      obtain ⟨z0, pp, dd, rfl, hL, hT⟩ := h
      obtain ⟨hz, hA⟩ := hok l (List.mem_of_getElem? hl)
      refine ⟨_, rfl, l, rfl, hz, hA, ?_⟩
      have law := K86.parse_law l
      have fin : ∀ (H' : Hp) (p d : Option V), LamX.ExtN Hc H' → LamX.Tabs [(P0, lawLam)] H' → iv2L a q L P0 ls tv bv (i + 1) [some (.ref a), some (.ref q), some (.ref L), tv, bv, some (.str (S l)), p, d] H' := fun H' p d e t =>
        ⟨_, p, d, rfl, e _ _ hL (by intro _ z; cases z), t⟩
      cases hp : K86.parse l with
      | ok r =>
        obtain ⟨n, u⟩ := r
        rw [hp] at law
        have law : K86.placeOf l = some (n, u) := law
        rw [law]
        have fit := place_fit hz law
        intro p H2 s2 hpl
        refine ⟨_, rfl, rfl, true, rfl, iteT ⟨_, rfl, (by show 1 ≤ sizeLine; decide), fun Dd hDd => ?_⟩⟩
        have hpl3 : PlAt (upd H2 Dd (.lst [.ref p])) p n u := hpl.same (same_new hDd)
        have hD3 : (upd H2 Dd (.lst [.ref p])) Dd = some (.lst [.ref p]) := upd_same
        have s23 : Same Hc (upd H2 Dd (.lst [.ref p])) := s2.trans (same_new hDd)
        generalize upd H2 Dd (.lst [.ref p]) = H3 at hpl3 hD3 s23
        refine ⟨hT.ext s23, fun H4 eN T4 lf hlf E' Q' kE kQ => ⟨_, rfl, l, rfl, hz, ?_⟩⟩
        rw [hp]
        intro p2 H5 s5 hpl5
        have hlf5 : H5 lf = some (.lst []) := s5 _ _ upd_same
        have s45 : Same H4 H5 := (same_new hlf).trans s5
        have hD5 := s45 _ _ (eN _ _ hD3 (by intro _ z; cases z))
        have nD : Dd ≠ lf := ne_of hD5 hlf5 (by intro z; cases z)
        have hplp := (hpl3.extn eN).same s45
        refine kQ (.ref p2) H5 hlf5 (.inr ⟨lf, p2, n, u, rfl, upd_same, hpl5.lset hlf5, fit, ?_⟩)
        refine ⟨_, rfl, .inr ⟨Dd, p, n, u, rfl, by rw [upd_ne nD]; exact hD5, hplp.lset hlf5, fit, ?_⟩⟩
        refine ⟨rfl, false, by rw [decide_eq_true rfl]; rfl, iteF (fin _ _ _ (fun b o e ne => ?_) (tabs_lset (T4.ext s45) hlf5))⟩
        have e4 := eN _ _ (s23 _ _ e) ne
        rw [upd_ne (ne_of_none e4 hlf)]
        exact s45 _ _ e4
      | error o =>
        rw [hp] at law
        obtain ⟨lw1, lw2, lw3⟩ : K86.placeOf l = none ∧ o ≤ l.length ∧ ∀ p, p ≤ l.length → (K86.beginsF (l.take p) = true ↔ p ≤ o) := law
        rw [lw1]
        intro H2 s2
        refine ⟨_, rfl, rfl, false, rfl, iteF ⟨_, rfl, l, o, rfl, hz, hA, lw2, lw3, fun H3 s3 => ?_⟩⟩
        have s23 := s2.trans s3
        have T3 := hT.ext s23
        have lg : ((o : Nat) : Int).natAbs.log2 < 1920 := log_le (by omega)
        refine ⟨T3, fun H4 eN T4 lf hlf E' Q' kE kQ => ⟨_, rfl, l, rfl, hz, ?_⟩⟩
        rw [hp]
        intro d H5 s5 hd
        have s45 : Same H4 H5 := (same_new hlf).trans s5
        refine kE d o H5 hd (.inl ⟨o, rfl, lg, ?_⟩)
        refine ⟨_, rfl, .inl ⟨o, rfl, lg, ?_⟩⟩
        refine ⟨rfl, false, by rw [decide_eq_true rfl]; rfl, iteF (fin H5 _ _ ?_ (T4.ext s45))⟩
        exact ((LamX.ExtN.of s23).trans eN).trans (LamX.ExtN.of s45)
    · obtain ⟨_, _, _, rfl, _⟩ := h
      exact rfl
end
end W86

-- W86s
set_option Elab.async false
set_option linter.all false
set_option maxRecDepth 100000
set_option maxHeartbeats 4000000
namespace W86
open PySem L2 PySem.Spec PyProof.Rows
/-! ### the law is called -/
/-- the start: the table, and the script's list where it is no written one -/
def hp0 (P0 a : Addr) (new : Bool) (o : Obj) (xs : List V) : Hp := fun b => if b = P0 then some (.tbl #[]) else if (new && decide (b = a)) = true then some (.frz o (.lst xs)) else none
section
variable {P0 a b : Addr} {new : Bool} {o : Obj} {xs : List V}
theorem hp0_tab : hp0 P0 a new o xs P0 = some (.tbl #[]) := if_pos rfl
theorem hp0_new (n : a ≠ P0) : hp0 P0 a true o xs a = some (.frz o (.lst xs)) := by
  unfold hp0
  rw [if_neg n, if_pos (by simp)]
theorem hp0_cases {u : HO} (h : hp0 P0 a new o xs b = some u) : (b = P0 ∧ u = .tbl #[]) ∨ (new = true ∧ b = a ∧ u = .frz o (.lst xs)) := by
  unfold hp0 at h
  split at h
  · rename_i e
    cases h
    exact .inl ⟨e, rfl⟩
  · split at h
    · rename_i e
      cases h
      rw [Bool.and_eq_true, decide_eq_true_eq] at e
      exact .inr ⟨e.1, e.2, rfl⟩
    · cases h
end
/-- neither a list nor an empty table -/
def Plain (d : Data) : Prop := (∃ es ep, d = .dict es ep) ∨ d = .plain ∨ ∃ vs, d = .fields vs ∧ vs ≠ #[]
section
variable {P : Program} {w : World} {K : PySem.W.Frag} {mg mb : Str → Option Value}
theorem law_called {C fa c P0 a : Addr} {oc dV kV doc pm ct : Value} {od an : Option Addr} {osl : Array (Option Value)} {s : Shared} {vs : List Value} {ns : List Int}
    (KX : K.In s.heap) (g1 : s.heap.Ns mainGlobals mg) (g2 : s.heap.Ns builtinsNs mb) (g3 : ∀ x : Str, x ≠ "__name__" → mb x = bootBuiltins x) (g4 : s.heap.NoLimit)
    (g5 : ∃ (bm : Addr) (ob : Obj), mg "__builtins__" = some (.ref bm) ∧ bm ≠ builtinsNs ∧ s.heap.get? bm = some ob ∧ ob.cls = .type "module" ∧ ob.dict = some builtinsNs ∧ ob.data = .plain) (g6 : s.gens = #[])
    (hP : s.heap.get? P0 = some { cls := .none, data := .fields #[] }) (nP : K.lookup P0 = none) (hc : PySem.W.CodeHd s.heap c P0) (ha : s.heap.get? a = some { cls := .type "list", data := .seq vs.toArray }) (hi : IntsAre vs ns) (hl : ns.length ≤ 63)
    (D : ∀ base : Heap, K.In base → base.Ns mainGlobals mg → Defs P w K mg base C)
    (lk : K.lookup fa = some ⟨oc, od, .func (PySem.W.fnOf "law" "law" (defArgs (st 30)) (defBody (st 30)) (defScope (st 30)) dV kV doc pm an (.ref c) ct), osl⟩) (hcd : PySem.W.codeIn K (.ref c) "law" = true)
    (hb : L2.Binds K (PySem.W.fnOf "law" "law" (defArgs (st 30)) (defBody (st 30)) (defScope (st 30)) dV kV doc pm an (.ref c) ct) ["_law_script"] []) (hr : Room 9 callerA) :
    codeAny (model P w) callerA (.call (.ref fa) ⟨[.ref a], []⟩) (fun r s' => r = .ok (.ret (.bool true)) ∧ OldK s.heap s'.heap ∧ s'.os = s.os ∧ AllBare s'.gens) s := by
  have rv : Vals (ns.map V.int) vs := vals_ints hi
  have lv := hi.length
  have aP : a ≠ P0 := fun z => by
    rw [z, hP] at ha
    cases ha
  have fit : ns.length ≤ sizeLine := line_le (by omega)
  obtain ⟨o, ho⟩ : ∃ o : Obj, o = { cls := .type "list", data := .seq vs.toArray } := ⟨_, rfl⟩
  rw [← ho] at ha
  obtain ⟨new, hnew⟩ : ∃ new : Bool, new = (K.lookup a).isNone := ⟨_, rfl⟩
  obtain ⟨H, hH⟩ : ∃ H : Hp, H = hp0 P0 a new o (ns.map V.int) := ⟨_, rfl⟩
  have cs : ∀ {b : Addr} {u : HO}, H b = some u → (b = P0 ∧ u = .tbl #[]) ∨ (new = true ∧ b = a ∧ u = .frz o (.lst (ns.map V.int))) := fun h => hp0_cases (by rw [hH] at h; exact h)
  have HP : H P0 = some (.tbl #[]) := by rw [hH]; exact hp0_tab
  -- what is not tracked
  have plain : ∀ {b : Addr} {u : Obj}, s.heap.get? b = some u → Plain u.data → H b = none := fun {b u} e p => by
    cases q : H b with
    | none => rfl
    | some h =>
      rcases cs q with ⟨z, _⟩ | ⟨_, z, _⟩
      · rw [z, hP] at e
        cases e
        rcases p with ⟨_, _, p⟩ | p | ⟨_, p, n⟩
        · cases p
        · cases p
        · cases p
          exact absurd rfl n
      · rw [z, ha] at e
        cases e
        rw [ho] at p
        rcases p with ⟨_, _, p⟩ | p | ⟨_, p, _⟩ <;> cases p
  have up : ∀ {b : Addr} {u : Obj}, s.heap.get? b = some u → Plain u.data → (hidT s.heap H).get? b = some u := fun e p => hidT_get e (plain e p)
  have ns_up : ∀ {b : Addr} {m : Str → Option Value}, s.heap.Ns b m → (hidT s.heap H).Ns b m := fun ⟨u, es, ep, e, d, r⟩ => ⟨u, es, ep, up e (.inl ⟨es, ep, d⟩), d, r⟩
  have Kb : K.In (hidT s.heap H) := fun b u e => hidT_get (KX b u e) (by
    cases q : H b with
    | none => rfl
    | some h =>
      rcases cs q with ⟨z, _⟩ | ⟨z1, z, _⟩
      · rw [z, nP] at e
        cases e
      · rw [z] at e
        rw [hnew, e] at z1
        cases z1)
  have M : L2.Mod K mg (hidT s.heap H) := ⟨Kb, ns_up g1, ⟨mb, ns_up g2, g3⟩, g4.elim fun m h => ⟨m, ns_up h.1, h.2⟩⟩
  have ok : HOk P w H s.heap := fun b u q => by
    rcases cs q with ⟨rfl, rfl⟩ | ⟨_, rfl, rfl⟩
    · exact hP
    · exact ⟨ha, by rw [List.length_map]; exact fit, vs, _, rv, ha.trans (congrArg some ho)⟩
  have e0 : Env0 P w K mg (hidT s.heap H) callerA [] s H := ⟨rfl, M, fun b u e => of_hidT e, Nat.le_of_eq (hidT_size _ _), trivial, fun b h => absurd h List.not_mem_nil, ok, .of_eq g6⟩
  have TB : LamX.TabB (hidT s.heap H) mg c P0 := by
    refine ⟨?_, ?_, fun z => ?_⟩
    · obtain ⟨u, us, f1, f2, f3, f4, f5, f6, f7, e, r1, r2, r3, r⟩ := hc
      refine ⟨u, us, f1, f2, f3, f4, f5, f6, f7, up e (.inr (.inr ⟨us, r2, fun z => ?_⟩)), r1, r2, r3, r⟩
      rw [z] at r3
      simp at r3
    · obtain ⟨bm, ob, b1, b2, b3, b4, b5, b6⟩ := g5
      refine ⟨bm, ob, b1, b2, fun z => ?_, fun z => ?_, up b3 (.inr (.inl b6)), b4, b5, b6⟩
      · obtain ⟨u, es, ep, e, d, _⟩ := g1
        rw [z, e] at b3
        cases b3
        rw [d] at b6
        cases b6
      · rw [z, hP] at b3
        cases b3
        cases b6
    · obtain ⟨u, es, ep, e, d, _⟩ := g1
      rw [z, hP] at e
      cases e
      cases d
  have S0 : SqL K H a (ns.map V.int) := by
    cases e : K.lookup a with
    | none =>
      rw [e] at hnew
      refine .inl (.inr ⟨o, ?_⟩)
      rw [hH, show new = true from hnew]
      exact hp0_new aP
    | some u =>
      have z := KX a u e
      rw [ha] at z
      cases z
      rw [ho] at e
      exact .inr ⟨_, vs.toArray, _, e, rfl, rfl, rfl, by rw [List.size_toArray, lv]; exact fit, rv⟩
  refine codeAny_mono (LamX.run_ofS (CX := L2.CX0) (us := [.ref a]) (vs := [.ref a]) (Q := fun v _ => v = .bl true) (E := fun _ _ _ => False) lk hcd scLaw hr e0 (hb s [.ref a] KX rfl) (.cons rfl .nil) rfl fun hr' => law_walk (D _ Kb (ns_up g1)) TB S0 hl HP hr') fun r s' h => ?_
  cases r with
  | error e => exact (show False from h).elim
  | ok fl =>
    cases fl with
    | next => exact False.elim h
    | brk => exact False.elim h
    | cont => exact False.elim h
    | ret u =>
      obtain ⟨v, H2, q1, q2, un, ok2, q3, rfl⟩ := h
      cases (show u = Value.bool true from q3)
      obtain ⟨more, hm⟩ := un.tbls P0 _ HP
      rw [Array.empty_append] at hm
      have tab2 : s'.heap.get? P0 = some { cls := .none, data := .fields more } := ok2 _ _ hm
      have kept : ∀ b u, b ≠ P0 → s.heap.get? b = some u → s'.heap.get? b = some u := fun b u n e => by
        cases q : H b with
        | none => exact un.keep b u e q List.not_mem_nil List.not_mem_nil
        | some h =>
          rcases cs q with ⟨z, _⟩ | ⟨_, rfl, rfl⟩
          · exact absurd z n
          · obtain ⟨k, _⟩ := ok2 _ _ (un.frzs _ _ _ q)
            rw [ha] at e
            cases e
            exact k
      refine ⟨rfl, ⟨fun b u e => ?_, fun b u e => ?_⟩, q1, q2⟩
      · by_cases n : b = P0
        · subst n
          rw [hP] at e
          cases e
          exact .inr (.inl ⟨(hc.tab hP).isCodeTable, rfl, #[], more, rfl, by rw [Array.empty_append]; exact tab2⟩)
        · exact .inl (kept b u n e)
      · by_cases n : b = P0
        · subst n
          exact ⟨_, tab2⟩
        · exact ⟨u, kept b u n e⟩
end
end W86

-- W86t
set_option Elab.async false
set_option linter.all false
set_option maxRecDepth 100000
set_option maxHeartbeats 4000000
namespace W86
open PySem L2 PySem.Spec PyProof.Rows

section
theorem all_mk {P : Program} {w : World} {K : PySem.W.Frag} {h base : Heap} {mg : Str → Option Value} {C f0 f9 f10 f11 f12 f13 f15 f16 f17 f18 f19 f20 f22 f23 f24 f25 f26 f27 f28 f29 f21 : Addr} {nm q : Str} {N : Addr} {bs : List Value} {sn : List Str} {sub : List Value} {ab : Bool} {col : Option Bool} {dd : Option Addr} {m0 m1 m2 m3 m5 : Option Value}
    {oc0 kV0 dc0 pm0 cd0 ct0 oc9 kV9 dc9 pm9 cd9 ct9 oc10 kV10 dc10 pm10 cd10 ct10 oc11 kV11 dc11 pm11 cd11 ct11 oc12 kV12 dc12 pm12 cd12 ct12 oc13 kV13 dc13 pm13 cd13 ct13 oc15 kV15 dc15 pm15 cd15 ct15 oc16 kV16 dc16 pm16 cd16 ct16 oc17 kV17 dc17 pm17 cd17 ct17 oc18 kV18 dc18 pm18 cd18 ct18 oc19 kV19 dc19 pm19 cd19 ct19 oc20 kV20 dc20 pm20 cd20 ct20 oc22 kV22 dc22 pm22 cd22 ct22 oc23 kV23 dc23 pm23 cd23 ct23 oc24 kV24 dc24 pm24 cd24 ct24 oc25 kV25 dc25 pm25 cd25 ct25 oc26 kV26 dc26 pm26 cd26 ct26 oc27 kV27 dc27 pm27 cd27 ct27 oc28 kV28 dc28 pm28 cd28 ct28 oc29 kV29 dc29 pm29 cd29 ct29 oc21 kV21 dc21 pm21 cd21 ct21 : Value} {od0 an0 od9 an9 od10 an10 od11 an11 od12 an12 od13 an13 od15 an15 od16 an16 od17 an17 od18 an18 od19 an19 od20 an20 od22 an22 od23 an23 od24 an24 od25 an25 od26 an26 od27 an27 od28 an28 od29 an29 od21 an21 : Option Addr} {sl0 sl9 sl10 sl11 sl12 sl13 sl15 sl16 sl17 sl18 sl19 sl20 sl22 sl23 sl24 sl25 sl26 sl27 sl28 sl29 sl21 : Array (Option Value)} {tk1 tk2 tk3 tk4 tk5 : Tok} (X : K.In h) (G : h.Ns mainGlobals mg) (mS : ∃ u, mg "MAX_START" = some u ∧ RelV (.int 1000000000000000000) u)
    (aC : PySem.W.nsIn K mainGlobals "ParseError" = some (some (.ref C)))
    (xL : K.lookup C = some (excClassObj nm q C N bs [.type "ValueError", .type "Exception", .type "BaseException", .type "object"] true sn sub ab col dd m0 m1 m2 m3 m5 "ValueError.__new__"))
    (sa : PySem.W.findIn K (.ref C) "__setattr__" = some (some (.builtin "object.__setattr__")))
    (ga : PySem.W.findIn K (.ref C) "__getattribute__" = some (some (.builtin "BaseException.__getattribute__")))
    (gg : PySem.W.findIn K (.ref C) "__getattr__" = some none)
    (no : PySem.W.findIn K (.ref C) "offset" = some none)
    (ak : PySem.W.findIn K (.ref C) "__class__" = some (some (.builtin "object.__class__")))
    (hn : PySem.W.specialIn K (.builtin "object.__class__") "__get__" = some (some (.builtin "getset_descriptor.__get__")))
    (ht : PySem.W.takesIn K (.builtin "object.__class__") = some true)
    (hm : PySem.W.mroIn K C (.type "object") = some true)
    (a0 : PySem.W.findIn K (.ref C) "__init__" = some (some (.ref f0)))
    (t0 : PySem.W.typeIn K (.ref f0) = some (.type "function"))
    (l0 : K.lookup f0 = some ⟨oc0, od0, .func (PySem.W.fnOf "__init__" "ParseError.__init__" (defArgs sInit) (defBody sInit) (defScope sInit) .none kV0 dc0 pm0 an0 cd0 ct0), sl0⟩)
    (e0 : PySem.W.codeIn K cd0 "ParseError.__init__" = true)
    (k0 : PySem.W.keepIn K (.ref f0) = true)
    (kC : PySem.W.keepIn K (.ref C) = true)
    (eC : PySem.W.subIn K (.ref C) (.type "BaseException") = some true)
    (tC : PySem.W.typeIn K (.ref C) = some (.type "type"))
    (hC : PySem.W.hasDictIn K C = true)
    (sC : PySem.W.subIn K (.ref C) (.ref C) = some true)
    (ve : PySem.W.kitOne K (.ref C) (.type "ValueError") = some true)
    (vV : PySem.W.findCls K (.type "ValueError") (.type "type") "__init__" = some (.val (.builtin "ValueError.__init__")))
    (n0 : PySem.W.nsIn K mainGlobals "len" = some none)
    (n1 : PySem.W.nsIn K mainGlobals "int" = some none)
    (n2 : PySem.W.nsIn K mainGlobals "str" = some none)
    (n3 : PySem.W.nsIn K mainGlobals "isinstance" = some none)
    (n4 : PySem.W.nsIn K mainGlobals "list" = some none)
    (n5 : PySem.W.nsIn K mainGlobals "tuple" = some none)
    (n6 : PySem.W.nsIn K mainGlobals "abs" = some none)
    (n7 : PySem.W.nsIn K mainGlobals "min" = some none)
    (n8 : PySem.W.nsIn K mainGlobals "max" = some none)
    (n9 : PySem.W.nsIn K mainGlobals "range" = some none)
    (n10 : PySem.W.nsIn K mainGlobals "repr" = some none)
    (n11 : PySem.W.nsIn K mainGlobals "ValueError" = some none)
    (vf : PySem.W.nsIn K mainGlobals "FIGURES" = some (some (.str "0123456789" tk1)))
    (va : PySem.W.nsIn K mainGlobals "ALPHABET" = some (some (.str "abcdefghijklmnopqrstuvwxyz" tk2)))
    (vL : PySem.W.nsIn K mainGlobals "MAX_LETTER" = some (some (.int 999999 tk3)))
    (vT : PySem.W.nsIn K mainGlobals "MAX_TEXT" = some (some (.int 4096 tk4)))
    (vM : PySem.W.nsIn K mainGlobals "MAX_VARIABLES" = some (some (.int 8 tk5)))
    (a9 : PySem.W.nsIn K mainGlobals "need_string" = some (some (.ref f9)))
    (l9 : K.lookup f9 = some ⟨oc9, od9, .func (PySem.W.fnOf "need_string" "need_string" (defArgs (st 9)) (defBody (st 9)) (defScope (st 9)) .none kV9 dc9 pm9 an9 cd9 ct9), sl9⟩)
    (e9 : PySem.W.codeIn K cd9 "need_string" = true)
    (k9 : PySem.W.keepIn K (.ref f9) = true)
    (a10 : PySem.W.nsIn K mainGlobals "number_end" = some (some (.ref f10)))
    (l10 : K.lookup f10 = some ⟨oc10, od10, .func (PySem.W.fnOf "number_end" "number_end" (defArgs (st 10)) (defBody (st 10)) (defScope (st 10)) .none kV10 dc10 pm10 an10 cd10 ct10), sl10⟩)
    (e10 : PySem.W.codeIn K cd10 "number_end" = true)
    (k10 : PySem.W.keepIn K (.ref f10) = true)
    (a11 : PySem.W.nsIn K mainGlobals "numbers_from" = some (some (.ref f11)))
    (l11 : K.lookup f11 = some ⟨oc11, od11, .func (PySem.W.fnOf "numbers_from" "numbers_from" (defArgs (st 11)) (defBody (st 11)) (defScope (st 11)) .none kV11 dc11 pm11 an11 cd11 ct11), sl11⟩)
    (e11 : PySem.W.codeIn K cd11 "numbers_from" = true)
    (k11 : PySem.W.keepIn K (.ref f11) = true)
    (a12 : PySem.W.nsIn K mainGlobals "need_sign" = some (some (.ref f12)))
    (l12 : K.lookup f12 = some ⟨oc12, od12, .func (PySem.W.fnOf "need_sign" "need_sign" (defArgs (st 12)) (defBody (st 12)) (defScope (st 12)) .none kV12 dc12 pm12 an12 cd12 ct12), sl12⟩)
    (e12 : PySem.W.codeIn K cd12 "need_sign" = true)
    (k12 : PySem.W.keepIn K (.ref f12) = true)
    (a13 : PySem.W.nsIn K mainGlobals "parse_place" = some (some (.ref f13)))
    (l13 : K.lookup f13 = some ⟨oc13, od13, .func (PySem.W.fnOf "parse_place" "parse_place" (defArgs (st 13)) (defBody (st 13)) (defScope (st 13)) .none kV13 dc13 pm13 an13 cd13 ct13), sl13⟩)
    (e13 : PySem.W.codeIn K cd13 "parse_place" = true)
    (k13 : PySem.W.keepIn K (.ref f13) = true)
    (a15 : PySem.W.nsIn K mainGlobals "_law_pen" = some (some (.ref f15)))
    (l15 : K.lookup f15 = some ⟨oc15, od15, .func (PySem.W.fnOf "_law_pen" "_law_pen" (defArgs (st 15)) (defBody (st 15)) (defScope (st 15)) .none kV15 dc15 pm15 an15 cd15 ct15), sl15⟩)
    (e15 : PySem.W.codeIn K cd15 "_law_pen" = true)
    (k15 : PySem.W.keepIn K (.ref f15) = true)
    (a16 : PySem.W.nsIn K mainGlobals "_law_draw" = some (some (.ref f16)))
    (l16 : K.lookup f16 = some ⟨oc16, od16, .func (PySem.W.fnOf "_law_draw" "_law_draw" (defArgs (st 16)) (defBody (st 16)) (defScope (st 16)) .none kV16 dc16 pm16 an16 cd16 ct16), sl16⟩)
    (e16 : PySem.W.codeIn K cd16 "_law_draw" = true)
    (k16 : PySem.W.keepIn K (.ref f16) = true)
    (a17 : PySem.W.nsIn K mainGlobals "_law_pick" = some (some (.ref f17)))
    (l17 : K.lookup f17 = some ⟨oc17, od17, .func (PySem.W.fnOf "_law_pick" "_law_pick" (defArgs (st 17)) (defBody (st 17)) (defScope (st 17)) .none kV17 dc17 pm17 an17 cd17 ct17), sl17⟩)
    (e17 : PySem.W.codeIn K cd17 "_law_pick" = true)
    (k17 : PySem.W.keepIn K (.ref f17) = true)
    (a18 : PySem.W.nsIn K mainGlobals "_law_drawn_letters" = some (some (.ref f18)))
    (l18 : K.lookup f18 = some ⟨oc18, od18, .func (PySem.W.fnOf "_law_drawn_letters" "_law_drawn_letters" (defArgs (st 18)) (defBody (st 18)) (defScope (st 18)) .none kV18 dc18 pm18 an18 cd18 ct18), sl18⟩)
    (e18 : PySem.W.codeIn K cd18 "_law_drawn_letters" = true)
    (k18 : PySem.W.keepIn K (.ref f18) = true)
    (a19 : PySem.W.nsIn K mainGlobals "_law_drawn_text" = some (some (.ref f19)))
    (l19 : K.lookup f19 = some ⟨oc19, od19, .func (PySem.W.fnOf "_law_drawn_text" "_law_drawn_text" (defArgs (st 19)) (defBody (st 19)) (defScope (st 19)) .none kV19 dc19 pm19 an19 cd19 ct19), sl19⟩)
    (e19 : PySem.W.codeIn K cd19 "_law_drawn_text" = true)
    (k19 : PySem.W.keepIn K (.ref f19) = true)
    (a20 : PySem.W.nsIn K mainGlobals "_law_is_number" = some (some (.ref f20)))
    (l20 : K.lookup f20 = some ⟨oc20, od20, .func (PySem.W.fnOf "_law_is_number" "_law_is_number" (defArgs (st 20)) (defBody (st 20)) (defScope (st 20)) .none kV20 dc20 pm20 an20 cd20 ct20), sl20⟩)
    (e20 : PySem.W.codeIn K cd20 "_law_is_number" = true)
    (k20 : PySem.W.keepIn K (.ref f20) = true)
    (a22 : PySem.W.nsIn K mainGlobals "_law_bent" = some (some (.ref f22)))
    (l22 : K.lookup f22 = some ⟨oc22, od22, .func (PySem.W.fnOf "_law_bent" "_law_bent" (defArgs (st 22)) (defBody (st 22)) (defScope (st 22)) .none kV22 dc22 pm22 an22 cd22 ct22), sl22⟩)
    (e22 : PySem.W.codeIn K cd22 "_law_bent" = true)
    (k22 : PySem.W.keepIn K (.ref f22) = true)
    (a23 : PySem.W.nsIn K mainGlobals "_law_drawn_place" = some (some (.ref f23)))
    (l23 : K.lookup f23 = some ⟨oc23, od23, .func (PySem.W.fnOf "_law_drawn_place" "_law_drawn_place" (defArgs (st 23)) (defBody (st 23)) (defScope (st 23)) .none kV23 dc23 pm23 an23 cd23 ct23), sl23⟩)
    (e23 : PySem.W.codeIn K cd23 "_law_drawn_place" = true)
    (k23 : PySem.W.keepIn K (.ref f23) = true)
    (a24 : PySem.W.nsIn K mainGlobals "_law_place_line" = some (some (.ref f24)))
    (l24 : K.lookup f24 = some ⟨oc24, od24, .func (PySem.W.fnOf "_law_place_line" "_law_place_line" (defArgs (st 24)) (defBody (st 24)) (defScope (st 24)) .none kV24 dc24 pm24 an24 cd24 ct24), sl24⟩)
    (e24 : PySem.W.codeIn K cd24 "_law_place_line" = true)
    (k24 : PySem.W.keepIn K (.ref f24) = true)
    (a25 : PySem.W.nsIn K mainGlobals "_law_is_value" = some (some (.ref f25)))
    (l25 : K.lookup f25 = some ⟨oc25, od25, .func (PySem.W.fnOf "_law_is_value" "_law_is_value" (defArgs (st 25)) (defBody (st 25)) (defScope (st 25)) .none kV25 dc25 pm25 an25 cd25 ct25), sl25⟩)
    (e25 : PySem.W.codeIn K cd25 "_law_is_value" = true)
    (k25 : PySem.W.keepIn K (.ref f25) = true)
    (a26 : PySem.W.nsIn K mainGlobals "_law_begins_value" = some (some (.ref f26)))
    (l26 : K.lookup f26 = some ⟨oc26, od26, .func (PySem.W.fnOf "_law_begins_value" "_law_begins_value" (defArgs (st 26)) (defBody (st 26)) (defScope (st 26)) .none kV26 dc26 pm26 an26 cd26 ct26), sl26⟩)
    (e26 : PySem.W.codeIn K cd26 "_law_begins_value" = true)
    (k26 : PySem.W.keepIn K (.ref f26) = true)
    (a27 : PySem.W.nsIn K mainGlobals "_law_place_of" = some (some (.ref f27)))
    (l27 : K.lookup f27 = some ⟨oc27, od27, .func (PySem.W.fnOf "_law_place_of" "_law_place_of" (defArgs (st 27)) (defBody (st 27)) (defScope (st 27)) .none kV27 dc27 pm27 an27 cd27 ct27), sl27⟩)
    (e27 : PySem.W.codeIn K cd27 "_law_place_of" = true)
    (k27 : PySem.W.keepIn K (.ref f27) = true)
    (a28 : PySem.W.nsIn K mainGlobals "_law_begins" = some (some (.ref f28)))
    (l28 : K.lookup f28 = some ⟨oc28, od28, .func (PySem.W.fnOf "_law_begins" "_law_begins" (defArgs (st 28)) (defBody (st 28)) (defScope (st 28)) .none kV28 dc28 pm28 an28 cd28 ct28), sl28⟩)
    (e28 : PySem.W.codeIn K cd28 "_law_begins" = true)
    (k28 : PySem.W.keepIn K (.ref f28) = true)
    (a29 : PySem.W.nsIn K mainGlobals "_law_longest" = some (some (.ref f29)))
    (l29 : K.lookup f29 = some ⟨oc29, od29, .func (PySem.W.fnOf "_law_longest" "_law_longest" (defArgs (st 29)) (defBody (st 29)) (defScope (st 29)) .none kV29 dc29 pm29 an29 cd29 ct29), sl29⟩)
    (e29 : PySem.W.codeIn K cd29 "_law_longest" = true)
    (k29 : PySem.W.keepIn K (.ref f29) = true)
    (a21 : PySem.W.nsIn K mainGlobals "_law_parse_error" = some (some (.ref f21)))
    (l21 : K.lookup f21 = some ⟨oc21, od21, .func (PySem.W.fnOf "_law_parse_error" "_law_parse_error" (defArgs (st 21)) (defBody (st 21)) (defScope (st 21)) .none kV21 dc21 pm21 an21 cd21 ct21), sl21⟩)
    (e21 : PySem.W.codeIn K cd21 "_law_parse_error" = true)
    (k21 : PySem.W.keepIn K (.ref f21) = true) : Defs P w K mg base C := by
  have B : Bl mg := ⟨PySem.W.mg_none_of X G n0, PySem.W.mg_none_of X G n1, PySem.W.mg_none_of X G n2, PySem.W.mg_none_of X G n3, PySem.W.mg_none_of X G n4, PySem.W.mg_none_of X G n5, PySem.W.mg_none_of X G n6, PySem.W.mg_none_of X G n7, PySem.W.mg_none_of X G n8, PySem.W.mg_none_of X G n9, PySem.W.mg_none_of X G n10, ⟨_, PySem.W.mg_of X G vf, ⟨_, by rw [← fig_eq]⟩⟩, ⟨_, PySem.W.mg_of X G va, ⟨_, rfl⟩⟩, ⟨_, PySem.W.mg_of X G vL, ⟨_, rfl⟩⟩, ⟨_, PySem.W.mg_of X G vT, ⟨_, rfl⟩⟩, ⟨_, PySem.W.mg_of X G vM, ⟨_, rfl⟩⟩, mS⟩
  have gC := PySem.W.mg_of X G aC
  have gV := PySem.W.mg_none_of X G n11
  have T : PErr K mg C f0 := ⟨gC, ⟨⟨nm, q, N, bs, _, sn, sub, ab, col, dd, m0, m1, m2, m3, m5, xL, by decide +kernel⟩, sa, eC, tC, kC⟩, no, a0, t0, vV, gV⟩
  have E : PEx K C := ⟨⟨ga, gg, eC, hC⟩, ⟨ga, gg, eC, hC, ak, hn, ht, hm⟩, PySem.W.exm_ref eC hC tC sC, ve, by obtain ⟨cd, z, _⟩ := PySem.W.any_some hC; rw [z]; rfl⟩
  have F0 := fun_mk (st := sInit) l0 e0 k0
  have b1 := F0.binds (ps := ["self", "offset"]) fun _ _ _ _ _ _ us hl => match us, hl with | [_, _], _ => rfl
  have F1 : FnOk P w K mg base L2.CX0 1 f0 _ ["self", "offset"] (spInit C) := ok_init F0 T
  have F9 := fun_mk (st := st 9) l9 e9 k9
  have b9 := F9.binds (ps := ["value"]) fun _ _ _ _ _ _ us hl => match us, hl with | [_], _ => rfl
  have c9 : Cl P w K mg base L2.CX0 1 "need_string" ["value"] spNS := ⟨_, _, PySem.W.mg_of X G a9, k9, ok_ns F9 B, b9⟩
  have F10 := fun_mk (st := st 10) l10 e10 k10
  have b10 := F10.binds (ps := ["line", "start", "limit"]) fun _ _ _ _ _ _ us hl => match us, hl with | [_, _, _], _ => rfl
  have c10 : Cl P w K mg base L2.CX0 1 "number_end" ["line", "start", "limit"] spNE := ⟨_, _, PySem.W.mg_of X G a10, k10, ok_ne F10 B, b10⟩
  have F11 := fun_mk (st := st 11) l11 e11 k11
  have b11 := F11.binds (ps := ["line", "start", "separator"]) fun _ _ _ _ _ _ us hl => match us, hl with | [_, _, _], _ => rfl
  have c11 : Cl P w K mg base (L2.CX P w) 4 "numbers_from" ["line", "start", "separator"] (spNF C) := ⟨_, _, PySem.W.mg_of X G a11, k11, ok_nf F11 B T F1 b1 c10, b11⟩
  have F12 := fun_mk (st := st 12) l12 e12 k12
  have b12 := F12.binds (ps := ["line", "offset", "signs"]) fun _ _ _ _ _ _ us hl => match us, hl with | [_, _, _], _ => rfl
  have c12 : Cl P w K mg base (L2.CX P w) 3 "need_sign" ["line", "offset", "signs"] (spSg K C) := ⟨_, _, PySem.W.mg_of X G a12, k12, ok_sg F12 T F1 b1, b12⟩
  have F13 := fun_mk (st := st 13) l13 e13 k13
  have b13 := F13.binds (ps := ["line"]) fun _ _ _ _ _ _ us hl => match us, hl with | [_], _ => rfl
  have c13 : Cl P w K mg base (L2.CX P w) 6 "parse_place" ["line"] (spPP C) := ⟨_, _, PySem.W.mg_of X G a13, k13, ok_pp F13 B T F1 b1 c9 c10 c12 c11, b13⟩
  have F15 := fun_mk (st := st 15) l15 e15 k15
  have b15 := F15.binds (ps := ["_law_script"]) fun _ _ _ _ _ _ us hl => match us, hl with | [_], _ => rfl
  have c15 : Cl P w K mg base L2.CX0 1 "_law_pen" ["_law_script"] (spPn K) := ⟨_, _, PySem.W.mg_of X G a15, k15, ok_pn F15 B, b15⟩
  have F16 := fun_mk (st := st 16) l16 e16 k16
  have b16 := F16.binds (ps := ["_law_pen_here", "_law_count"]) fun _ _ _ _ _ _ us hl => match us, hl with | [_, _], _ => rfl
  have c16 : Cl P w K mg base L2.CX0 1 "_law_draw" ["_law_pen_here", "_law_count"] spDr := ⟨_, _, PySem.W.mg_of X G a16, k16, ok_dr F16 B, b16⟩
  have F17 := fun_mk (st := st 17) l17 e17 k17
  have b17 := F17.binds (ps := ["_law_pen_here", "_law_options"]) fun _ _ _ _ _ _ us hl => match us, hl with | [_, _], _ => rfl
  have c17 : Cl P w K mg base L2.CX0 2 "_law_pick" ["_law_pen_here", "_law_options"] spPk := ⟨_, _, PySem.W.mg_of X G a17, k17, ok_pk F17 B c16, b17⟩
  have F18 := fun_mk (st := st 18) l18 e18 k18
  have b18 := F18.binds (ps := ["_law_pen_here", "_law_count"]) fun _ _ _ _ _ _ us hl => match us, hl with | [_, _], _ => rfl
  have c18 : Cl P w K mg base L2.CX0 3 "_law_drawn_letters" ["_law_pen_here", "_law_count"] spDL := ⟨_, _, PySem.W.mg_of X G a18, k18, ok_dl F18 B c16 c17, b18⟩
  have F19 := fun_mk (st := st 19) l19 e19 k19
  have b19 := F19.binds (ps := ["_law_pen_here", "_law_size"]) fun _ _ _ _ _ _ us hl => match us, hl with | [_, _], _ => rfl
  have c19 : Cl P w K mg base L2.CX0 3 "_law_drawn_text" ["_law_pen_here", "_law_size"] spDT := ⟨_, _, PySem.W.mg_of X G a19, k19, ok_dt F19 B c16 c17, b19⟩
  have F20 := fun_mk (st := st 20) l20 e20 k20
  have b20 := F20.binds (ps := ["_law_string", "_law_most"]) fun _ _ _ _ _ _ us hl => match us, hl with | [_, _], _ => rfl
  have c20 : Cl P w K mg base L2.CX0 1 "_law_is_number" ["_law_string", "_law_most"] spIN := ⟨_, _, PySem.W.mg_of X G a20, k20, ok_in F20 B, b20⟩
  have F22 := fun_mk (st := st 22) l22 e22 k22
  have b22 := F22.binds (ps := ["_law_pen_here", "_law_line", "_law_signs"]) fun _ _ _ _ _ _ us hl => match us, hl with | [_, _, _], _ => rfl
  have c22 : Cl P w K mg base L2.CX0 4 "_law_bent" ["_law_pen_here", "_law_line", "_law_signs"] spBn := ⟨_, _, PySem.W.mg_of X G a22, k22, ok_bn F22 B c16 c17, b22⟩
  have F23 := fun_mk (st := st 23) l23 e23 k23
  have b23 := F23.binds (ps := ["_law_pen_here"]) fun _ _ _ _ _ _ us hl => match us, hl with | [_], _ => rfl
  have c23 : Cl P w K mg base L2.CX0 5 "_law_drawn_place" ["_law_pen_here"] spDP := ⟨_, _, PySem.W.mg_of X G a23, k23, ok_dp F23 B c16 c17 c18 c19, b23⟩
  have F24 := fun_mk (st := st 24) l24 e24 k24
  have b24 := F24.binds (ps := ["_law_place"]) fun _ _ _ _ _ _ us hl => match us, hl with | [_], _ => rfl
  have c24 : Cl P w K mg base L2.CX0 1 "_law_place_line" ["_law_place"] spPL := ⟨_, _, PySem.W.mg_of X G a24, k24, ok_pl F24 B, b24⟩
  have F25 := fun_mk (st := st 25) l25 e25 k25
  have b25 := F25.binds (ps := ["_law_part", "_law_used"]) fun _ _ _ _ _ _ us hl => match us, hl with | [_, _], _ => rfl
  have c25 : Cl P w K mg base L2.CX0 3 "_law_is_value" ["_law_part", "_law_used"] spIV := ⟨_, _, PySem.W.mg_of X G a25, k25, ok_iv F25 B c20, b25⟩
  have F26 := fun_mk (st := st 26) l26 e26 k26
  have b26 := F26.binds (ps := ["_law_part", "_law_used"]) fun _ _ _ _ _ _ us hl => match us, hl with | [_, _], _ => rfl
  have c26 : Cl P w K mg base L2.CX0 3 "_law_begins_value" ["_law_part", "_law_used"] spBV := ⟨_, _, PySem.W.mg_of X G a26, k26, ok_bv F26 B c20, b26⟩
  have F27 := fun_mk (st := st 27) l27 e27 k27
  have b27 := F27.binds (ps := ["_law_line"]) fun _ _ _ _ _ _ us hl => match us, hl with | [_], _ => rfl
  have c27 : Cl P w K mg base L2.CX0 5 "_law_place_of" ["_law_line"] spPO := ⟨_, _, PySem.W.mg_of X G a27, k27, ok_po F27 B c20 c25, b27⟩
  have F28 := fun_mk (st := st 28) l28 e28 k28
  have b28 := F28.binds (ps := ["_law_line"]) fun _ _ _ _ _ _ us hl => match us, hl with | [_], _ => rfl
  have c28 : Cl P w K mg base L2.CX0 6 "_law_begins" ["_law_line"] spBG := ⟨_, _, PySem.W.mg_of X G a28, k28, ok_bg F28 B c20 c27 c26, b28⟩
  have F29 := fun_mk (st := st 29) l29 e29 k29
  have b29 := F29.binds (ps := ["_law_line"]) fun _ _ _ _ _ _ us hl => match us, hl with | [_], _ => rfl
  have c29 : Cl P w K mg base L2.CX0 7 "_law_longest" ["_law_line"] spLG := ⟨_, _, PySem.W.mg_of X G a29, k29, ok_lg F29 B c28, b29⟩
  have F21 := fun_mk (st := st 21) l21 e21 k21
  have b21 := F21.binds (ps := ["_law_call"]) fun _ _ _ _ _ _ us hl => match us, hl with | [_], _ => rfl
  exact ⟨B, E, gV, gC, no, c15, c16, c23, c24, c22, c27, c29, c13, _, _, PySem.W.mg_of X G a21, F21, b21⟩
end
end W86

-- W86v
set_option Elab.async false
set_option linter.all false
set_option maxRecDepth 100000
set_option maxHeartbeats 4000000
namespace W86
open PySem L2 PySem.Spec PyProof.Rows

theorem max_start {h : Heap} {mg : Str → Option Value} (L : PySem.W.LooseAre [(("MAX_START" : Str), PySem.W.WData.int 1000000000000000000)] mg h) : ∃ u, mg "MAX_START" = some u ∧ RelV (.int 1000000000000000000) u := by
  obtain ⟨v, h1, h2⟩ := L.val (("MAX_START" : Str), PySem.W.WData.int 1000000000000000000) (by exact List.mem_singleton.mpr rfl)
  refine ⟨v, h1, ?_⟩
  cases h2
  exact ⟨_, rfl⟩
theorem law_final {P : Program} {w : World} {K : PySem.W.Frag} {s : Shared} {mg mb : Str → Option Value} {fa a : Addr} {vs : List Value} {ns : List Int} {C f0 f9 f10 f11 f12 f13 f15 f16 f17 f18 f19 f20 f22 f23 f24 f25 f26 f27 f28 f29 f21 f30 c P0 : Addr} {nm q : Str} {N : Addr} {bs : List Value} {sn : List Str} {sub : List Value} {ab : Bool} {col : Option Bool} {dd : Option Addr} {m0 m1 m2 m3 m5 : Option Value}
    {oc0 kV0 dc0 pm0 cd0 ct0 oc9 kV9 dc9 pm9 cd9 ct9 oc10 kV10 dc10 pm10 cd10 ct10 oc11 kV11 dc11 pm11 cd11 ct11 oc12 kV12 dc12 pm12 cd12 ct12 oc13 kV13 dc13 pm13 cd13 ct13 oc15 kV15 dc15 pm15 cd15 ct15 oc16 kV16 dc16 pm16 cd16 ct16 oc17 kV17 dc17 pm17 cd17 ct17 oc18 kV18 dc18 pm18 cd18 ct18 oc19 kV19 dc19 pm19 cd19 ct19 oc20 kV20 dc20 pm20 cd20 ct20 oc22 kV22 dc22 pm22 cd22 ct22 oc23 kV23 dc23 pm23 cd23 ct23 oc24 kV24 dc24 pm24 cd24 ct24 oc25 kV25 dc25 pm25 cd25 ct25 oc26 kV26 dc26 pm26 cd26 ct26 oc27 kV27 dc27 pm27 cd27 ct27 oc28 kV28 dc28 pm28 cd28 ct28 oc29 kV29 dc29 pm29 cd29 ct29 oc21 kV21 dc21 pm21 cd21 ct21 oc30 kV30 dc30 pm30 ct30 : Value} {od0 an0 od9 an9 od10 an10 od11 an11 od12 an12 od13 an13 od15 an15 od16 an16 od17 an17 od18 an18 od19 an19 od20 an20 od22 an22 od23 an23 od24 an24 od25 an25 od26 an26 od27 an27 od28 an28 od29 an29 od21 an21 od30 an30 : Option Addr} {sl0 sl9 sl10 sl11 sl12 sl13 sl15 sl16 sl17 sl18 sl19 sl20 sl22 sl23 sl24 sl25 sl26 sl27 sl28 sl29 sl21 sl30 : Array (Option Value)} {tk1 tk2 tk3 tk4 tk5 : Tok} (KX : K.In s.heap) (g1 : s.heap.Ns mainGlobals mg) (g2 : s.heap.Ns builtinsNs mb) (g3 : ∀ x : Str, x ≠ "__name__" → mb x = bootBuiltins x) (g4 : s.heap.NoLimit)
    (g5 : ∃ (bm : Addr) (ob : Obj), mg "__builtins__" = some (.ref bm) ∧ bm ≠ builtinsNs ∧ s.heap.get? bm = some ob ∧ ob.cls = .type "module" ∧ ob.dict = some builtinsNs ∧ ob.data = .plain) (g6 : s.gens = #[])
    (hmg : mg "law" = some (.ref fa)) (ha : s.heap.get? a = some { cls := .type "list", data := .seq vs.toArray }) (hi : IntsAre vs ns) (hl : ns.length ≤ 63) (hr : Room 9 callerA) (mS : PySem.W.LooseAre [(("MAX_START" : Str), PySem.W.WData.int 1000000000000000000)] mg s.heap)
    (a30 : PySem.W.nsIn K mainGlobals "law" = some (some (.ref f30))) (l30 : K.lookup f30 = some ⟨oc30, od30, .func (PySem.W.fnOf "law" "law" (defArgs (st 30)) (defBody (st 30)) (defScope (st 30)) .none kV30 dc30 pm30 an30 (.ref c) ct30), sl30⟩) (e30 : PySem.W.codeIn K (.ref c) "law" = true)
    (tab : PySem.W.CodeHd s.heap c P0 ∧ s.heap.get? P0 = some { cls := .none, data := .fields #[] }) (nP : K.lookup P0 = none)
    (aC : PySem.W.nsIn K mainGlobals "ParseError" = some (some (.ref C)))
    (xL : K.lookup C = some (excClassObj nm q C N bs [.type "ValueError", .type "Exception", .type "BaseException", .type "object"] true sn sub ab col dd m0 m1 m2 m3 m5 "ValueError.__new__"))
    (sa : PySem.W.findIn K (.ref C) "__setattr__" = some (some (.builtin "object.__setattr__")))
    (ga : PySem.W.findIn K (.ref C) "__getattribute__" = some (some (.builtin "BaseException.__getattribute__")))
    (gg : PySem.W.findIn K (.ref C) "__getattr__" = some none)
    (no : PySem.W.findIn K (.ref C) "offset" = some none)
    (ak : PySem.W.findIn K (.ref C) "__class__" = some (some (.builtin "object.__class__")))
    (hn : PySem.W.specialIn K (.builtin "object.__class__") "__get__" = some (some (.builtin "getset_descriptor.__get__")))
    (ht : PySem.W.takesIn K (.builtin "object.__class__") = some true)
    (hm : PySem.W.mroIn K C (.type "object") = some true)
    (a0 : PySem.W.findIn K (.ref C) "__init__" = some (some (.ref f0)))
    (t0 : PySem.W.typeIn K (.ref f0) = some (.type "function"))
    (l0 : K.lookup f0 = some ⟨oc0, od0, .func (PySem.W.fnOf "__init__" "ParseError.__init__" (defArgs sInit) (defBody sInit) (defScope sInit) .none kV0 dc0 pm0 an0 cd0 ct0), sl0⟩)
    (e0 : PySem.W.codeIn K cd0 "ParseError.__init__" = true)
    (k0 : PySem.W.keepIn K (.ref f0) = true)
    (kC : PySem.W.keepIn K (.ref C) = true)
    (eC : PySem.W.subIn K (.ref C) (.type "BaseException") = some true)
    (tC : PySem.W.typeIn K (.ref C) = some (.type "type"))
    (hC : PySem.W.hasDictIn K C = true)
    (sC : PySem.W.subIn K (.ref C) (.ref C) = some true)
    (ve : PySem.W.kitOne K (.ref C) (.type "ValueError") = some true)
    (vV : PySem.W.findCls K (.type "ValueError") (.type "type") "__init__" = some (.val (.builtin "ValueError.__init__")))
    (n0 : PySem.W.nsIn K mainGlobals "len" = some none)
    (n1 : PySem.W.nsIn K mainGlobals "int" = some none)
    (n2 : PySem.W.nsIn K mainGlobals "str" = some none)
    (n3 : PySem.W.nsIn K mainGlobals "isinstance" = some none)
    (n4 : PySem.W.nsIn K mainGlobals "list" = some none)
    (n5 : PySem.W.nsIn K mainGlobals "tuple" = some none)
    (n6 : PySem.W.nsIn K mainGlobals "abs" = some none)
    (n7 : PySem.W.nsIn K mainGlobals "min" = some none)
    (n8 : PySem.W.nsIn K mainGlobals "max" = some none)
    (n9 : PySem.W.nsIn K mainGlobals "range" = some none)
    (n10 : PySem.W.nsIn K mainGlobals "repr" = some none)
    (n11 : PySem.W.nsIn K mainGlobals "ValueError" = some none)
    (vf : PySem.W.nsIn K mainGlobals "FIGURES" = some (some (.str "0123456789" tk1)))
    (va : PySem.W.nsIn K mainGlobals "ALPHABET" = some (some (.str "abcdefghijklmnopqrstuvwxyz" tk2)))
    (vL : PySem.W.nsIn K mainGlobals "MAX_LETTER" = some (some (.int 999999 tk3)))
    (vT : PySem.W.nsIn K mainGlobals "MAX_TEXT" = some (some (.int 4096 tk4)))
    (vM : PySem.W.nsIn K mainGlobals "MAX_VARIABLES" = some (some (.int 8 tk5)))
    (a9 : PySem.W.nsIn K mainGlobals "need_string" = some (some (.ref f9)))
    (l9 : K.lookup f9 = some ⟨oc9, od9, .func (PySem.W.fnOf "need_string" "need_string" (defArgs (st 9)) (defBody (st 9)) (defScope (st 9)) .none kV9 dc9 pm9 an9 cd9 ct9), sl9⟩)
    (e9 : PySem.W.codeIn K cd9 "need_string" = true)
    (k9 : PySem.W.keepIn K (.ref f9) = true)
    (a10 : PySem.W.nsIn K mainGlobals "number_end" = some (some (.ref f10)))
    (l10 : K.lookup f10 = some ⟨oc10, od10, .func (PySem.W.fnOf "number_end" "number_end" (defArgs (st 10)) (defBody (st 10)) (defScope (st 10)) .none kV10 dc10 pm10 an10 cd10 ct10), sl10⟩)
    (e10 : PySem.W.codeIn K cd10 "number_end" = true)
    (k10 : PySem.W.keepIn K (.ref f10) = true)
    (a11 : PySem.W.nsIn K mainGlobals "numbers_from" = some (some (.ref f11)))
    (l11 : K.lookup f11 = some ⟨oc11, od11, .func (PySem.W.fnOf "numbers_from" "numbers_from" (defArgs (st 11)) (defBody (st 11)) (defScope (st 11)) .none kV11 dc11 pm11 an11 cd11 ct11), sl11⟩)
    (e11 : PySem.W.codeIn K cd11 "numbers_from" = true)
    (k11 : PySem.W.keepIn K (.ref f11) = true)
    (a12 : PySem.W.nsIn K mainGlobals "need_sign" = some (some (.ref f12)))
    (l12 : K.lookup f12 = some ⟨oc12, od12, .func (PySem.W.fnOf "need_sign" "need_sign" (defArgs (st 12)) (defBody (st 12)) (defScope (st 12)) .none kV12 dc12 pm12 an12 cd12 ct12), sl12⟩)
    (e12 : PySem.W.codeIn K cd12 "need_sign" = true)
    (k12 : PySem.W.keepIn K (.ref f12) = true)
    (a13 : PySem.W.nsIn K mainGlobals "parse_place" = some (some (.ref f13)))
    (l13 : K.lookup f13 = some ⟨oc13, od13, .func (PySem.W.fnOf "parse_place" "parse_place" (defArgs (st 13)) (defBody (st 13)) (defScope (st 13)) .none kV13 dc13 pm13 an13 cd13 ct13), sl13⟩)
    (e13 : PySem.W.codeIn K cd13 "parse_place" = true)
    (k13 : PySem.W.keepIn K (.ref f13) = true)
    (a15 : PySem.W.nsIn K mainGlobals "_law_pen" = some (some (.ref f15)))
    (l15 : K.lookup f15 = some ⟨oc15, od15, .func (PySem.W.fnOf "_law_pen" "_law_pen" (defArgs (st 15)) (defBody (st 15)) (defScope (st 15)) .none kV15 dc15 pm15 an15 cd15 ct15), sl15⟩)
    (e15 : PySem.W.codeIn K cd15 "_law_pen" = true)
    (k15 : PySem.W.keepIn K (.ref f15) = true)
    (a16 : PySem.W.nsIn K mainGlobals "_law_draw" = some (some (.ref f16)))
    (l16 : K.lookup f16 = some ⟨oc16, od16, .func (PySem.W.fnOf "_law_draw" "_law_draw" (defArgs (st 16)) (defBody (st 16)) (defScope (st 16)) .none kV16 dc16 pm16 an16 cd16 ct16), sl16⟩)
    (e16 : PySem.W.codeIn K cd16 "_law_draw" = true)
    (k16 : PySem.W.keepIn K (.ref f16) = true)
    (a17 : PySem.W.nsIn K mainGlobals "_law_pick" = some (some (.ref f17)))
    (l17 : K.lookup f17 = some ⟨oc17, od17, .func (PySem.W.fnOf "_law_pick" "_law_pick" (defArgs (st 17)) (defBody (st 17)) (defScope (st 17)) .none kV17 dc17 pm17 an17 cd17 ct17), sl17⟩)
    (e17 : PySem.W.codeIn K cd17 "_law_pick" = true)
    (k17 : PySem.W.keepIn K (.ref f17) = true)
    (a18 : PySem.W.nsIn K mainGlobals "_law_drawn_letters" = some (some (.ref f18)))
    (l18 : K.lookup f18 = some ⟨oc18, od18, .func (PySem.W.fnOf "_law_drawn_letters" "_law_drawn_letters" (defArgs (st 18)) (defBody (st 18)) (defScope (st 18)) .none kV18 dc18 pm18 an18 cd18 ct18), sl18⟩)
    (e18 : PySem.W.codeIn K cd18 "_law_drawn_letters" = true)
    (k18 : PySem.W.keepIn K (.ref f18) = true)
    (a19 : PySem.W.nsIn K mainGlobals "_law_drawn_text" = some (some (.ref f19)))
    (l19 : K.lookup f19 = some ⟨oc19, od19, .func (PySem.W.fnOf "_law_drawn_text" "_law_drawn_text" (defArgs (st 19)) (defBody (st 19)) (defScope (st 19)) .none kV19 dc19 pm19 an19 cd19 ct19), sl19⟩)
    (e19 : PySem.W.codeIn K cd19 "_law_drawn_text" = true)
    (k19 : PySem.W.keepIn K (.ref f19) = true)
    (a20 : PySem.W.nsIn K mainGlobals "_law_is_number" = some (some (.ref f20)))
    (l20 : K.lookup f20 = some ⟨oc20, od20, .func (PySem.W.fnOf "_law_is_number" "_law_is_number" (defArgs (st 20)) (defBody (st 20)) (defScope (st 20)) .none kV20 dc20 pm20 an20 cd20 ct20), sl20⟩)
    (e20 : PySem.W.codeIn K cd20 "_law_is_number" = true)
    (k20 : PySem.W.keepIn K (.ref f20) = true)
    (a22 : PySem.W.nsIn K mainGlobals "_law_bent" = some (some (.ref f22)))
    (l22 : K.lookup f22 = some ⟨oc22, od22, .func (PySem.W.fnOf "_law_bent" "_law_bent" (defArgs (st 22)) (defBody (st 22)) (defScope (st 22)) .none kV22 dc22 pm22 an22 cd22 ct22), sl22⟩)
    (e22 : PySem.W.codeIn K cd22 "_law_bent" = true)
    (k22 : PySem.W.keepIn K (.ref f22) = true)
    (a23 : PySem.W.nsIn K mainGlobals "_law_drawn_place" = some (some (.ref f23)))
    (l23 : K.lookup f23 = some ⟨oc23, od23, .func (PySem.W.fnOf "_law_drawn_place" "_law_drawn_place" (defArgs (st 23)) (defBody (st 23)) (defScope (st 23)) .none kV23 dc23 pm23 an23 cd23 ct23), sl23⟩)
    (e23 : PySem.W.codeIn K cd23 "_law_drawn_place" = true)
    (k23 : PySem.W.keepIn K (.ref f23) = true)
    (a24 : PySem.W.nsIn K mainGlobals "_law_place_line" = some (some (.ref f24)))
    (l24 : K.lookup f24 = some ⟨oc24, od24, .func (PySem.W.fnOf "_law_place_line" "_law_place_line" (defArgs (st 24)) (defBody (st 24)) (defScope (st 24)) .none kV24 dc24 pm24 an24 cd24 ct24), sl24⟩)
    (e24 : PySem.W.codeIn K cd24 "_law_place_line" = true)
    (k24 : PySem.W.keepIn K (.ref f24) = true)
    (a25 : PySem.W.nsIn K mainGlobals "_law_is_value" = some (some (.ref f25)))
    (l25 : K.lookup f25 = some ⟨oc25, od25, .func (PySem.W.fnOf "_law_is_value" "_law_is_value" (defArgs (st 25)) (defBody (st 25)) (defScope (st 25)) .none kV25 dc25 pm25 an25 cd25 ct25), sl25⟩)
    (e25 : PySem.W.codeIn K cd25 "_law_is_value" = true)
    (k25 : PySem.W.keepIn K (.ref f25) = true)
    (a26 : PySem.W.nsIn K mainGlobals "_law_begins_value" = some (some (.ref f26)))
    (l26 : K.lookup f26 = some ⟨oc26, od26, .func (PySem.W.fnOf "_law_begins_value" "_law_begins_value" (defArgs (st 26)) (defBody (st 26)) (defScope (st 26)) .none kV26 dc26 pm26 an26 cd26 ct26), sl26⟩)
    (e26 : PySem.W.codeIn K cd26 "_law_begins_value" = true)
    (k26 : PySem.W.keepIn K (.ref f26) = true)
    (a27 : PySem.W.nsIn K mainGlobals "_law_place_of" = some (some (.ref f27)))
    (l27 : K.lookup f27 = some ⟨oc27, od27, .func (PySem.W.fnOf "_law_place_of" "_law_place_of" (defArgs (st 27)) (defBody (st 27)) (defScope (st 27)) .none kV27 dc27 pm27 an27 cd27 ct27), sl27⟩)
    (e27 : PySem.W.codeIn K cd27 "_law_place_of" = true)
    (k27 : PySem.W.keepIn K (.ref f27) = true)
    (a28 : PySem.W.nsIn K mainGlobals "_law_begins" = some (some (.ref f28)))
    (l28 : K.lookup f28 = some ⟨oc28, od28, .func (PySem.W.fnOf "_law_begins" "_law_begins" (defArgs (st 28)) (defBody (st 28)) (defScope (st 28)) .none kV28 dc28 pm28 an28 cd28 ct28), sl28⟩)
    (e28 : PySem.W.codeIn K cd28 "_law_begins" = true)
    (k28 : PySem.W.keepIn K (.ref f28) = true)
    (a29 : PySem.W.nsIn K mainGlobals "_law_longest" = some (some (.ref f29)))
    (l29 : K.lookup f29 = some ⟨oc29, od29, .func (PySem.W.fnOf "_law_longest" "_law_longest" (defArgs (st 29)) (defBody (st 29)) (defScope (st 29)) .none kV29 dc29 pm29 an29 cd29 ct29), sl29⟩)
    (e29 : PySem.W.codeIn K cd29 "_law_longest" = true)
    (k29 : PySem.W.keepIn K (.ref f29) = true)
    (a21 : PySem.W.nsIn K mainGlobals "_law_parse_error" = some (some (.ref f21)))
    (l21 : K.lookup f21 = some ⟨oc21, od21, .func (PySem.W.fnOf "_law_parse_error" "_law_parse_error" (defArgs (st 21)) (defBody (st 21)) (defScope (st 21)) .none kV21 dc21 pm21 an21 cd21 ct21), sl21⟩)
    (e21 : PySem.W.codeIn K cd21 "_law_parse_error" = true)
    (k21 : PySem.W.keepIn K (.ref f21) = true) : codeAny (model P w) callerA (.call (.ref fa) ⟨[.ref a], []⟩) (fun r s' => r = .ok (.ret (.bool true)) ∧ OldK s.heap s'.heap ∧ s'.os = s.os ∧ AllBare s'.gens) s := by
  have e := hmg.symm.trans (PySem.W.mg_of KX g1 a30)
  cases e
  exact law_called (C := C) KX g1 g2 g3 g4 g5 g6 tab.2 nP tab.1 ha hi hl (fun base _ _ => all_mk KX g1 (max_start mS) aC xL sa ga gg no ak hn ht hm a0 t0 l0 e0 k0 kC eC tC hC sC ve vV n0 n1 n2 n3 n4 n5 n6 n7 n8 n9 n10 n11 vf va vL vT vM a9 l9 e9 k9 a10 l10 e10 k10 a11 l11 e11 k11 a12 l12 e12 k12 a13 l13 e13 k13 a15 l15 e15 k15 a16 l16 e16 k16 a17 l17 e17 k17 a18 l18 e18 k18 a19 l19 e19 k19 a20 l20 e20 k20 a22 l22 e22 k22 a23 l23 e23 k23 a24 l24 e24 k24 a25 l25 e25 k25 a26 l26 e26 k26 a27 l27 e27 k27 a28 l28 e28 k28 a29 l29 e29 k29 a21 l21 e21 k21) l30 e30 (.all fun us hl => match us, hl with | [_], _ => rfl) hr
end W86

-- W86u
set_option Elab.async false
open PySem PySem.W PyProof.Rows

set_option maxRecDepth 100000 in
set_option maxHeartbeats 0 in
theorem PySem.Challenge.cw_mustoccur_k86_whole_strings_parsed_as_pl_holds : PySem.Challenge.rw_mustoccur_k86_whole_strings_parsed_as_pl.Holds := by
  w_on; o_law; k_head; (case hw => w_witness2)
  k_fill
  refine Att.attach_callB (n := 63) rfl rfl fun w s₀ s₁ mg mb fa o pm cd doc a vs ns G Y ho hd hcd hmg hobj hints hlen hbits hg => ?_
  have KX := PySem.W.km_in_of Y
  have mS := G.X.2
  clear Y ho hd hcd hbits
  refine' W86.law_final KX G.T.g G.T.b G.T.builtins G.T.nolimit G.T.bmain hg hmg hobj hints hlen ⟨rfl, by decide, by decide⟩ mS ?a30 ?l30 ?e30 ?tab ?nP ?aC ?xL ?sa ?ga ?gg ?no ?ak ?hn ?ht ?hm ?a0 ?t0 ?l0 ?e0 ?k0 ?kC ?eC ?tC ?hC ?sC ?ve ?vV ?n0 ?n1 ?n2 ?n3 ?n4 ?n5 ?n6 ?n7 ?n8 ?n9 ?n10 ?n11 ?vf ?va ?vL ?vT ?vM ?a9 ?l9 ?e9 ?k9 ?a10 ?l10 ?e10 ?k10 ?a11 ?l11 ?e11 ?k11 ?a12 ?l12 ?e12 ?k12 ?a13 ?l13 ?e13 ?k13 ?a15 ?l15 ?e15 ?k15 ?a16 ?l16 ?e16 ?k16 ?a17 ?l17 ?e17 ?k17 ?a18 ?l18 ?e18 ?k18 ?a19 ?l19 ?e19 ?k19 ?a20 ?l20 ?e20 ?k20 ?a22 ?l22 ?e22 ?k22 ?a23 ?l23 ?e23 ?k23 ?a24 ?l24 ?e24 ?k24 ?a25 ?l25 ?e25 ?k25 ?a26 ?l26 ?e26 ?k26 ?a27 ?l27 ?e27 ?k27 ?a28 ?l28 ?e28 ?k28 ?a29 ?l29 ?e29 ?k29 ?a21 ?l21 ?e21 ?k21
  (case a30 => k_is)
  (case l30 => k_is)
  (case e30 => k_is)
  (case tab => exact PySem.W.tab_of (x := "law") (P := 160) G.T KX rfl (by kernel_rfl))
  (case nP => first | rfl | k_is | kernel_rfl)
  (case aC => k_is)
  (case xL => k_is)
  (case sa => k_is)
  (case ga => k_is)
  (case gg => k_is)
  (case no => k_is)
  (case ak => k_is)
  (case hn => first | k_is | kernel_rfl)
  (case ht => first | k_is | kernel_rfl)
  (case hm => k_is)
  (case a0 => k_is)
  (case t0 => k_is)
  (case l0 => k_is)
  (case e0 => k_is)
  (case k0 => k_is)
  (case kC => k_is)
  (case eC => k_is)
  (case tC => k_is)
  (case hC => k_is)
  (case sC => first | rfl | k_is)
  (case ve => first | rfl | k_is | kit_is | kernel_rfl)
  (case vV => first | k_is | kernel_rfl)
  (case n0 => k_is)
  (case n1 => k_is)
  (case n2 => k_is)
  (case n3 => k_is)
  (case n4 => k_is)
  (case n5 => k_is)
  (case n6 => k_is)
  (case n7 => k_is)
  (case n8 => k_is)
  (case n9 => k_is)
  (case n10 => k_is)
  (case n11 => k_is)
  (case vf => k_is)
  (case va => k_is)
  (case vL => k_is)
  (case vT => k_is)
  (case vM => k_is)
  (case a9 => k_is)
  (case l9 => k_is)
  (case e9 => k_is)
  (case k9 => k_is)
  (case a10 => k_is)
  (case l10 => k_is)
  (case e10 => k_is)
  (case k10 => k_is)
  (case a11 => k_is)
  (case l11 => k_is)
  (case e11 => k_is)
  (case k11 => k_is)
  (case a12 => k_is)
  (case l12 => k_is)
  (case e12 => k_is)
  (case k12 => k_is)
  (case a13 => k_is)
  (case l13 => k_is)
  (case e13 => k_is)
  (case k13 => k_is)
  (case a15 => k_is)
  (case l15 => k_is)
  (case e15 => k_is)
  (case k15 => k_is)
  (case a16 => k_is)
  (case l16 => k_is)
  (case e16 => k_is)
  (case k16 => k_is)
  (case a17 => k_is)
  (case l17 => k_is)
  (case e17 => k_is)
  (case k17 => k_is)
  (case a18 => k_is)
  (case l18 => k_is)
  (case e18 => k_is)
  (case k18 => k_is)
  (case a19 => k_is)
  (case l19 => k_is)
  (case e19 => k_is)
  (case k19 => k_is)
  (case a20 => k_is)
  (case l20 => k_is)
  (case e20 => k_is)
  (case k20 => k_is)
  (case a22 => k_is)
  (case l22 => k_is)
  (case e22 => k_is)
  (case k22 => k_is)
  (case a23 => k_is)
  (case l23 => k_is)
  (case e23 => k_is)
  (case k23 => k_is)
  (case a24 => k_is)
  (case l24 => k_is)
  (case e24 => k_is)
  (case k24 => k_is)
  (case a25 => k_is)
  (case l25 => k_is)
  (case e25 => k_is)
  (case k25 => k_is)
  (case a26 => k_is)
  (case l26 => k_is)
  (case e26 => k_is)
  (case k26 => k_is)
  (case a27 => k_is)
  (case l27 => k_is)
  (case e27 => k_is)
  (case k27 => k_is)
  (case a28 => k_is)
  (case l28 => k_is)
  (case e28 => k_is)
  (case k28 => k_is)
  (case a29 => k_is)
  (case l29 => k_is)
  (case e29 => k_is)
  (case k29 => k_is)
  (case a21 => k_is)
  (case l21 => k_is)
  (case e21 => k_is)
  (case k21 => k_is)
