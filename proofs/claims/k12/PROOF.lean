import PyProof.Rows.All
import Wide.All
import OpenK.AllK
import Wide.FinOn
import HandS.ForMost
import HandS.Deep
import HandS.TupAny
import HandS.Conv
import HandS.IsInst
import HandS.Zip
import HandS.Codes
import HandS.Wide
import HandS.More
import PyProof.EqAt
import PyProof.EqKinds
import PyProof.TupleCall
import PyProof.Draws
import KE.GoesMore
import KE.KTupSum
import KE.KSortTup
import HandS.SortOrd
import HandS.SortRule
import HandS.ExcOwn
import HandS.TryOnly
import HandS.Dict
import PyProof.P3Eq
import HandS.WordsExc
import PySem.Challenge.RW_updownworths_k12_whole_books_cut
set_option Elab.async false
set_option linter.all false
section
set_option maxRecDepth 100000
set_option maxHeartbeats 4000000
/-! The mathematics of law k12, in plain Lean: trees by rules, the least trees, the useful rules, the cut book, the counts and the lists of trees. -/
namespace KM

/-! ### trees -/
inductive T where
  | n0 (r : Nat) | n1 (r : Nat) (a : T) | n2 (r : Nat) (a b : T)
  deriving DecidableEq
namespace T
def r : T → Nat | n0 r => r | n1 r _ => r | n2 r _ _ => r
def bs : T → List T | n0 _ => [] | n1 _ a => [a] | n2 _ a b => [a, b]
def mk (r : Nat) : List T → T | [] => n0 r | [a] => n1 r a | a :: b :: _ => n2 r a b
def turn (f : Nat → Nat) : T → T | n0 r => n0 (f r) | n1 r a => n1 (f r) (turn f a) | n2 r a b => n2 (f r) (turn f a) (turn f b)
def knots : T → Nat | n0 _ => 1 | n1 _ a => 1 + knots a | n2 _ a b => 1 + knots a + knots b
def flat : T → List Nat | n0 r => [r] | n1 r a => r :: flat a | n2 r a b => r :: (flat a ++ flat b)
/-- the order of the tuples (rule, boughs) -/
def lt : T → T → Bool
  | n0 r, n0 s => decide (r < s)
  | n0 r, n1 s _ => if r = s then true else decide (r < s)
  | n0 r, n2 s _ _ => if r = s then true else decide (r < s)
  | n1 r _, n0 s => if r = s then false else decide (r < s)
  | n1 r a, n1 s b => if r = s then (if a = b then false else lt a b) else decide (r < s)
  | n1 r a, n2 s b _ => if r = s then (if a = b then true else lt a b) else decide (r < s)
  | n2 r _ _, n0 s => if r = s then false else decide (r < s)
  | n2 r a _, n1 s b => if r = s then (if a = b then false else lt a b) else decide (r < s)
  | n2 r a b, n2 s c d => if r = s then (if a = c then (if b = d then false else lt b d) else lt a c) else decide (r < s)
theorem lt_irrefl (t : T) : lt t t = false := by
  cases t <;> simp [lt]
theorem flat_len (t : T) : (flat t).length = knots t := by
  induction t <;> simp_all [flat, knots] <;> omega
theorem knots_pos (t : T) : 0 < knots t := by
  cases t <;> simp [knots] <;> omega
theorem turn_knots (f : Nat → Nat) (t : T) : knots (turn f t) = knots t := by
  induction t <;> simp_all [turn, knots]
theorem turn_flat (f : Nat → Nat) (t : T) : flat (turn f t) = (flat t).map f := by
  induction t <;> simp_all [turn, flat]
theorem turn_mk (f : Nat → Nat) (r : Nat) (l : List T) : turn f (mk r l) = mk (f r) (l.map (turn f)) := by
  match l with
  | [] => rfl
  | [a] => rfl
  | a :: b :: l => rfl
theorem lt_asym (a : T) : ∀ b : T, lt a b = true → lt b a = false := by
  induction a with
  | n0 r => intro b; cases b <;> simp only [lt] <;> grind
  | n1 r a ih => intro b; cases b <;> simp only [lt] <;> grind
  | n2 r a b ih1 ih2 => intro b; cases b <;> simp only [lt] <;> grind
theorem lt_tri (a : T) : ∀ b : T, lt a b = false → lt b a = false → a = b := by
  induction a with
  | n0 r => intro b; cases b <;> simp only [lt] <;> grind
  | n1 r a ih => intro b; cases b <;> simp only [lt] <;> grind
  | n2 r a b ih1 ih2 => intro b; cases b <;> simp only [lt] <;> grind
theorem lt_trans (a : T) : ∀ b c : T, lt a b = true → lt b c = true → lt a c = true := by
  induction a with
  | n0 r => intro b c; cases b <;> cases c <;> simp only [lt] <;> grind
  | n1 r a ih => intro b c; cases b <;> cases c <;> simp only [lt] <;> grind [lt_irrefl, lt_asym]
  | n2 r a b ih1 ih2 => intro b c; cases b <;> cases c <;> simp only [lt] <;> grind [lt_irrefl, lt_asym]
/-- labels below n -/
def Below (n : Nat) (t : T) : Prop := ∀ x ∈ flat t, x < n
theorem below1 {n r : Nat} {a : T} (h : Below n (n1 r a)) : r < n ∧ Below n a :=
  ⟨h r (by simp [flat]), fun x hx => h x (by simp [flat, hx])⟩
theorem below2 {n r : Nat} {a b : T} (h : Below n (n2 r a b)) : r < n ∧ Below n a ∧ Below n b :=
  ⟨h r (by simp [flat]), fun x hx => h x (by simp [flat, hx]), fun x hx => h x (by simp [flat, hx])⟩
theorem below0 {n r : Nat} (h : Below n (n0 r)) : r < n := h r (by simp [flat])
section
variable {f : Nat → Nat} {n : Nat} (hf : ∀ i j, i < n → j < n → i < j → f i < f j)
include hf
theorem f_inj {i j : Nat} (hi : i < n) (hj : j < n) : (f i = f j) = (i = j) := by
  apply propext
  constructor
  · intro e
    rcases Nat.lt_trichotomy i j with h | h | h
    · have := hf i j hi hj h; omega
    · exact h
    · have := hf j i hj hi h; omega
  · intro e; rw [e]
theorem f_lt {i j : Nat} (hi : i < n) (hj : j < n) : (f i < f j) = (i < j) := by
  apply propext
  constructor
  · intro e
    rcases Nat.lt_trichotomy i j with h | h | h
    · exact h
    · rw [h] at e; omega
    · have := hf j i hj hi h; omega
  · intro e; exact hf i j hi hj e
theorem turn_inj : ∀ (a b : T), Below n a → Below n b → (turn f a = turn f b) = (a = b) := by
  intro a
  induction a with
  | n0 r =>
    intro b ha hb
    cases b with
    | n0 s => simp only [turn, n0.injEq]; rw [f_inj hf (below0 ha) (below0 hb)]
    | n1 s b => simp [turn]
    | n2 s b c => simp [turn]
  | n1 r a ih =>
    intro b ha hb
    cases b with
    | n0 s => simp [turn]
    | n1 s b => simp only [turn, n1.injEq]; rw [f_inj hf (below1 ha).1 (below1 hb).1, ih b (below1 ha).2 (below1 hb).2]
    | n2 s b c => simp [turn]
  | n2 r a a' ih ih' =>
    intro b ha hb
    cases b with
    | n0 s => simp [turn]
    | n1 s b => simp [turn]
    | n2 s b c => simp only [turn, n2.injEq]; rw [f_inj hf (below2 ha).1 (below2 hb).1, ih b (below2 ha).2.1 (below2 hb).2.1, ih' c (below2 ha).2.2 (below2 hb).2.2]
theorem turn_lt : ∀ (a b : T), Below n a → Below n b → lt (turn f a) (turn f b) = lt a b := by
  intro a
  induction a with
  | n0 r =>
    intro b ha hb
    cases b with
    | n0 s => simp only [turn, lt, f_lt hf (below0 ha) (below0 hb)]
    | n1 s b => simp only [turn, lt, f_lt hf (below0 ha) (below1 hb).1, f_inj hf (below0 ha) (below1 hb).1]
    | n2 s b c => simp only [turn, lt, f_lt hf (below0 ha) (below2 hb).1, f_inj hf (below0 ha) (below2 hb).1]
  | n1 r a ih =>
    intro b ha hb
    cases b with
    | n0 s => simp only [turn, lt, f_lt hf (below1 ha).1 (below0 hb), f_inj hf (below1 ha).1 (below0 hb)]
    | n1 s b => simp only [turn, lt, f_lt hf (below1 ha).1 (below1 hb).1, f_inj hf (below1 ha).1 (below1 hb).1, turn_inj hf a b (below1 ha).2 (below1 hb).2, ih b (below1 ha).2 (below1 hb).2]
    | n2 s b c => simp only [turn, lt, f_lt hf (below1 ha).1 (below2 hb).1, f_inj hf (below1 ha).1 (below2 hb).1, turn_inj hf a b (below1 ha).2 (below2 hb).2.1, ih b (below1 ha).2 (below2 hb).2.1]
  | n2 r a a' ih ih' =>
    intro b ha hb
    cases b with
    | n0 s => simp only [turn, lt, f_lt hf (below2 ha).1 (below0 hb), f_inj hf (below2 ha).1 (below0 hb)]
    | n1 s b => simp only [turn, lt, f_lt hf (below2 ha).1 (below1 hb).1, f_inj hf (below2 ha).1 (below1 hb).1, turn_inj hf a b (below2 ha).2.1 (below1 hb).2, ih b (below2 ha).2.1 (below1 hb).2]
    | n2 s b c => simp only [turn, lt, f_lt hf (below2 ha).1 (below2 hb).1, f_inj hf (below2 ha).1 (below2 hb).1, turn_inj hf a b (below2 ha).2.1 (below2 hb).2.1, ih b (below2 ha).2.1 (below2 hb).2.1, turn_inj hf a' c (below2 ha).2.2 (below2 hb).2.2, ih' c (below2 ha).2.2 (below2 hb).2.2]
end
end T

/-! ### rules -/
structure Rule (φ : Type) where
  sign : Nat
  parts : List Nat
  fs : List φ
abbrev Fd := List (Option (Nat × T))
def ltP (p q : Nat × T) : Bool := if p.1 = q.1 then (if p.2 = q.2 then false else T.lt p.2 q.2) else decide (p.1 < q.1)
def better : Option (Nat × T) → Nat × T → Bool
  | none, _ => true
  | some p, t => ltP t p
def at' (fd : Fd) (p : Nat) : Option (Nat × T) := fd.getD p none
def allSome : List (Option (Nat × T)) → Option (List (Nat × T))
  | [] => some []
  | none :: _ => none
  | some x :: r => match allSome r with | none => none | some l => some (x :: l)
def told (r : Nat) (bs : List (Nat × T)) : Nat × T := (1 + (bs.map (·.1)).sum, T.mk r (bs.map (·.2)))
section
variable {φ : Type}
def stepL (r : Nat) (ru : Rule φ) (s : Fd × Bool) : Fd × Bool :=
  match allSome (ru.parts.map (at' s.1)) with
  | none => s
  | some bs => if better (at' s.1 ru.sign) (told r bs) = true then (s.1.set ru.sign (some (told r bs)), true) else s
def roundL : Nat → List (Rule φ) → Fd × Bool → Fd × Bool
  | _, [], s => s
  | i, ru :: rs, s => roundL (i + 1) rs (stepL i ru s)
/-- the state behind n rounds -/
def iterL (rs : List (Rule φ)) (fd : Fd) : Nat → Fd
  | 0 => fd
  | n + 1 => (roundL 0 rs (iterL rs fd n, false)).1
/-- the loop from fd ends with fd' -/
def RunsL (rs : List (Rule φ)) (fd fd' : Fd) : Prop := ∃ n, iterL rs fd n = fd' ∧ (roundL 0 rs (fd', false)).2 = false
theorem iterL_succ (rs : List (Rule φ)) (fd : Fd) (n : Nat) : iterL rs fd (n + 1) = iterL rs ((roundL 0 rs (fd, false)).1) n := by
  induction n with
  | zero => rfl
  | succ n ih => rw [iterL, ih, iterL]
theorem RunsL.go {rs : List (Rule φ)} {fd fd' : Fd} (h : RunsL rs ((roundL 0 rs (fd, false)).1) fd') : RunsL rs fd fd' := by
  obtain ⟨n, h1, h2⟩ := h
  exact ⟨n + 1, by rw [iterL_succ]; exact h1, h2⟩
theorem RunsL.stop {rs : List (Rule φ)} {fd : Fd} (h : (roundL 0 rs (fd, false)).2 = false) : RunsL rs fd fd := ⟨0, rfl, h⟩
/-- nothing changed where the flag stays down -/
theorem stepL_flag (r : Nat) (ru : Rule φ) (s : Fd × Bool) (h : (stepL r ru s).2 = false) : stepL r ru s = s := by
  unfold stepL at h ⊢
  split at h
  · rfl
  · split at h
    · cases h
    · rename_i h1 h2; rw [if_neg h2]
theorem stepL_up (r : Nat) (ru : Rule φ) (s : Fd × Bool) (h : s.2 = true) : (stepL r ru s).2 = true := by
  cases e : (stepL r ru s).2 with
  | true => rfl
  | false => rw [stepL_flag r ru s e, h] at e; cases e
theorem roundL_up : ∀ (rs : List (Rule φ)) (i : Nat) (s : Fd × Bool), s.2 = true → (roundL i rs s).2 = true
  | [], _, _, h => h
  | ru :: rs, i, s, h => roundL_up rs (i + 1) _ (stepL_up i ru s h)
theorem roundL_flag : ∀ (rs : List (Rule φ)) (i : Nat) (s : Fd × Bool), (roundL i rs s).2 = false → roundL i rs s = s
  | [], _, _, _ => rfl
  | ru :: rs, i, s, h => by
    have h1 : (stepL i ru s).2 = false := by
      cases e : (stepL i ru s).2 with
      | false => rfl
      | true =>
        have := roundL_up rs (i + 1) _ e
        rw [roundL] at h
        rw [h] at this
        cases this
    rw [roundL, stepL_flag i ru s h1]
    rw [roundL, stepL_flag i ru s h1] at h
    exact roundL_flag rs (i + 1) s h
/-- behind the end no round changes anything -/
theorem RunsL.fix {rs : List (Rule φ)} {fd fd' : Fd} (h : RunsL rs fd fd') : ∃ n, ∀ m, n ≤ m → iterL rs fd m = fd' := by
  obtain ⟨n, h1, h2⟩ := h
  have hf := roundL_flag rs 0 (fd', false) h2
  refine ⟨n, fun m hm => ?_⟩
  obtain ⟨k, rfl⟩ := Nat.exists_eq_add_of_le hm
  clear hm
  induction k with
  | zero => exact h1
  | succ k ih =>
    show (roundL 0 rs (iterL rs fd (n + k), false)).1 = fd'
    rw [ih, hf]

/-! ### what is made stays made -/
def Has (fd : Fd) (s : Nat) : Prop := (at' fd s).isSome = true
theorem at_set (fd : Fd) (s s' : Nat) (v : Option (Nat × T)) : at' (fd.set s v) s' = if s = s' ∧ s < fd.length then v else at' fd s' := by
  unfold at'
  rw [List.getD_eq_getElem?_getD, List.getD_eq_getElem?_getD, List.getElem?_set]
  by_cases h1 : s = s'
  · subst h1
    by_cases h2 : s < fd.length
    · simp [h2]
    · simp [h2]
  · simp [h1]
theorem stepL_has (r : Nat) (ru : Rule φ) (s : Fd × Bool) (k : Nat) (h : Has s.1 k) : Has (stepL r ru s).1 k := by
  unfold stepL
  split
  · exact h
  · split
    · unfold Has
      rw [at_set]
      split
      · rfl
      · exact h
    · exact h
theorem roundL_has : ∀ (rs : List (Rule φ)) (i : Nat) (s : Fd × Bool) (k : Nat), Has s.1 k → Has (roundL i rs s).1 k
  | [], _, _, _, h => h
  | ru :: rs, i, s, k, h => roundL_has rs (i + 1) _ k (stepL_has i ru s k h)
theorem iterL_has (rs : List (Rule φ)) (fd : Fd) (n m k : Nat) (h : Has (iterL rs fd n) k) : Has (iterL rs fd (n + m)) k := by
  induction m with
  | zero => exact h
  | succ m ih => exact roundL_has rs 0 _ k ih
theorem RunsL.has {rs : List (Rule φ)} {fd fd' : Fd} (h : RunsL rs fd fd') (n k : Nat) (hk : Has (iterL rs fd n) k) : Has fd' k := by
  obtain ⟨m, hm⟩ := h.fix
  have := iterL_has rs fd n m k hk
  rw [hm (n + m) (by omega)] at this
  exact this
theorem stepL_len (r : Nat) (ru : Rule φ) (s : Fd × Bool) : (stepL r ru s).1.length = s.1.length := by
  unfold stepL
  split
  · rfl
  · split
    · simp
    · rfl
theorem roundL_len : ∀ (rs : List (Rule φ)) (i : Nat) (s : Fd × Bool), (roundL i rs s).1.length = s.1.length
  | [], _, _ => rfl
  | ru :: rs, i, s => by rw [roundL, roundL_len rs (i + 1), stepL_len]
theorem iterL_len (rs : List (Rule φ)) (fd : Fd) (n : Nat) : (iterL rs fd n).length = fd.length := by
  induction n with
  | zero => rfl
  | succ n ih => rw [iterL, roundL_len]; exact ih
theorem RunsL.len {rs : List (Rule φ)} {fd fd' : Fd} (h : RunsL rs fd fd') : fd'.length = fd.length := by
  obtain ⟨n, h1, _⟩ := h
  rw [← h1, iterL_len]
theorem allSome_none {l : List (Option (Nat × T))} : allSome l = none ↔ none ∈ l := by
  induction l with
  | nil => simp [allSome]
  | cons x l ih =>
    cases x with
    | none => simp [allSome]
    | some y =>
      simp only [allSome, List.mem_cons, reduceCtorEq, false_or]
      cases e : allSome l with
      | none => simp [← ih, e]
      | some q => rw [e] at ih; simp only [reduceCtorEq, false_iff] at ih ⊢; exact ih
theorem allSome_some {l : List (Option (Nat × T))} {q : List (Nat × T)} : allSome l = some q → l = q.map some := by
  induction l generalizing q with
  | nil => intro h; simp [allSome] at h; rw [h]; rfl
  | cons x l ih =>
    cases x with
    | none => intro h; simp [allSome] at h
    | some y =>
      intro h
      simp only [allSome] at h
      cases e : allSome l with
      | none => rw [e] at h; cases h
      | some q' =>
        rw [e] at h
        have h : y :: q' = q := Option.some.inj h
        rw [← h, ih e]
        rfl
theorem allSome_map (q : List (Nat × T)) : allSome (q.map some) = some q := by
  induction q with
  | nil => rfl
  | cons x q ih => rw [List.map_cons, allSome, ih]
end
end KM
end

section
set_option maxRecDepth 100000
set_option maxHeartbeats 4000000
namespace KM
section
variable {φ : Type}
/-! ### the rules that are kept -/
def aliveR (made : Nat → Bool) (ru : Rule φ) : Bool := ru.parts.all made
def keepR (made : Nat → Bool) (come : List Nat) (ru : Rule φ) : Bool := aliveR made ru && decide (ru.sign ∈ come)
/-- the places, from i on, of those that p lets by -/
def ixs (p : Rule φ → Bool) : Nat → List (Rule φ) → List Nat
  | _, [] => []
  | i, ru :: rs => if p ru = true then i :: ixs p (i + 1) rs else ixs p (i + 1) rs
theorem ixs_len (p : Rule φ → Bool) : ∀ (rs : List (Rule φ)) (i : Nat), (ixs p i rs).length = (rs.filter p).length
  | [], _ => rfl
  | ru :: rs, i => by
    unfold ixs
    cases h : p ru with
    | true => simp [h, ixs_len p rs]
    | false => simp [h, ixs_len p rs]
theorem ixs_ge (p : Rule φ → Bool) : ∀ (rs : List (Rule φ)) (i : Nat), ∀ x ∈ ixs p i rs, i ≤ x ∧ x < i + rs.length
  | [], _, x, h => by simp [ixs] at h
  | ru :: rs, i, x, h => by
    unfold ixs at h
    have ih := ixs_ge p rs (i + 1) x
    split at h
    · rcases List.mem_cons.mp h with e | h
      · subst e; simp
      · have := ih h; simp; omega
    · have := ih h; simp; omega
theorem ixs_sorted (p : Rule φ → Bool) : ∀ (rs : List (Rule φ)) (i : Nat), (ixs p i rs).Pairwise (· < ·)
  | [], _ => List.Pairwise.nil
  | ru :: rs, i => by
    unfold ixs
    split
    · refine List.pairwise_cons.mpr ⟨fun x hx => ?_, ixs_sorted p rs (i + 1)⟩
      have := ixs_ge p rs (i + 1) x hx
      omega
    · exact ixs_sorted p rs (i + 1)
theorem ixs_get (p : Rule φ → Bool) : ∀ (rs : List (Rule φ)) (i m x : Nat), (ixs p i rs)[m]? = some x → ∃ ru, rs[x - i]? = some ru ∧ (rs.filter p)[m]? = some ru ∧ p ru = true
  | [], i, m, x, h => by simp [ixs] at h
  | ru :: rs, i, m, x, h => by
    unfold ixs at h
    split at h
    · rename_i hp
      cases m with
      | zero =>
        simp at h
        subst h
        exact ⟨ru, by simp, by simp [hp], hp⟩
      | succ m =>
        have h : (ixs p (i + 1) rs)[m]? = some x := by simpa using h
        have hx := ixs_ge p rs (i + 1) x (List.mem_of_getElem? h)
        obtain ⟨r', h1, h2, h3⟩ := ixs_get p rs (i + 1) m x h
        refine ⟨r', ?_, by simp [hp, h2], h3⟩
        rw [show x - i = (x - (i + 1)) + 1 by omega]
        simpa using h1
    · rename_i hp
      have hx := ixs_ge p rs (i + 1) x (List.mem_of_getElem? h)
      obtain ⟨r', h1, h2, h3⟩ := ixs_get p rs (i + 1) m x h
      refine ⟨r', ?_, by simp [hp, h2], h3⟩
      rw [show x - i = (x - (i + 1)) + 1 by omega]
      simpa using h1
theorem ixs_all (p : Rule φ → Bool) : ∀ (rs : List (Rule φ)) (i : Nat), (∀ ru ∈ rs, p ru = true) → ixs p i rs = List.range' i rs.length
  | [], _, _ => rfl
  | ru :: rs, i, h => by
    unfold ixs
    rw [if_pos (h ru List.mem_cons_self), ixs_all p rs (i + 1) fun r hr => h r (List.mem_cons_of_mem _ hr), List.length_cons, List.range'_succ]

/-! ### the two runs of the least trees -/
def tau (f : Nat → Nat) (p : Nat × T) : Nat × T := (p.1, T.turn f p.2)
def Sim (f : Nat → Nat) (come : List Nat) (fB fC : Fd) : Prop := ∀ s ∈ come, at' fB s = (at' fC s).map (tau f)
def BelowF (n : Nat) (fd : Fd) : Prop := ∀ s p, at' fd s = some p → T.Below n p.2
theorem allSome_tau (f : Nat → Nat) (l : List (Option (Nat × T))) : allSome (l.map (Option.map (tau f))) = (allSome l).map (List.map (tau f)) := by
  induction l with
  | nil => rfl
  | cons x l ih =>
    cases x with
    | none => rfl
    | some y =>
      simp only [List.map_cons, Option.map_some, allSome, ih]
      cases allSome l <;> rfl
theorem told_tau (f : Nat → Nat) (j : Nat) (bs : List (Nat × T)) : told (f j) (bs.map (tau f)) = tau f (told j bs) := by
  unfold told tau
  rw [T.turn_mk]
  simp [List.map_map, Function.comp_def]
theorem below_mk {n j : Nat} (hj : j < n) : ∀ (l : List T), (∀ t ∈ l, T.Below n t) → T.Below n (T.mk j l) := by
  intro l h x hx
  match l, h, hx with
  | [], _, hx => simp [T.mk, T.flat] at hx; omega
  | [a], h, hx =>
    simp [T.mk, T.flat] at hx
    rcases hx with e | hx
    · omega
    · exact h a (by simp) x hx
  | a :: b :: l, h, hx =>
    simp [T.mk, T.flat] at hx
    rcases hx with e | hx | hx
    · omega
    · exact h a (by simp) x hx
    · exact h b (by simp) x hx
theorem allSome_mem {l : List (Option (Nat × T))} {q : List (Nat × T)} (h : allSome l = some q) {x : Nat × T} (hx : x ∈ q) : some x ∈ l := by
  rw [allSome_some h]
  exact List.mem_map.mpr ⟨x, hx, rfl⟩
theorem told_below {n j : Nat} (hj : j < n) {fd : Fd} (hb : BelowF n fd) {parts : List Nat} {bs : List (Nat × T)} (h : allSome (parts.map (at' fd)) = some bs) : T.Below n (told j bs).2 := by
  refine below_mk hj _ fun t ht => ?_
  obtain ⟨p, hp, rfl⟩ := List.mem_map.mp ht
  obtain ⟨s, _, hs⟩ := List.mem_map.mp (allSome_mem h hp)
  exact hb s p hs
theorem stepL_below {n j : Nat} (hj : j < n) (ru : Rule φ) (s : Fd × Bool) (hb : BelowF n s.1) : BelowF n (stepL j ru s).1 := by
  unfold stepL
  split
  · exact hb
  · rename_i bs h
    split
    · intro k p hk
      rw [at_set] at hk
      split at hk
      · cases hk
        exact told_below hj hb h
      · exact hb k p hk
    · exact hb
section
variable {f : Nat → Nat} {n : Nat} (hf : ∀ i j, i < n → j < n → i < j → f i < f j)
include hf
theorem ltP_tau {p q : Nat × T} (hp : T.Below n p.2) (hq : T.Below n q.2) : ltP (tau f p) (tau f q) = ltP p q := by
  unfold ltP tau
  simp only [T.turn_lt hf _ _ hp hq, T.turn_inj hf _ _ hp hq]
theorem better_tau {o : Option (Nat × T)} {t : Nat × T} (ho : ∀ p, o = some p → T.Below n p.2) (ht : T.Below n t.2) : better (o.map (tau f)) (tau f t) = better o t := by
  cases o with
  | none => rfl
  | some p => exact ltP_tau hf ht (ho p rfl)
theorem sim_keep {come : List Nat} {fB fC : Fd} {gb gc : Bool} {j : Nat} {ru : Rule φ} (S : Sim f come fB fC) (hb : BelowF n fC) (hl : fB.length = fC.length) (hj : j < n) (hp : ∀ p ∈ ru.parts, p ∈ come) (hs : ru.sign ∈ come) :
    Sim f come (stepL (f j) ru (fB, gb)).1 (stepL j ru (fC, gc)).1 := by
  have e1 : ru.parts.map (at' fB) = (ru.parts.map (at' fC)).map (Option.map (tau f)) := by
    rw [List.map_map]
    exact List.map_congr_left fun p h => S p (hp p h)
  unfold stepL
  simp only [e1, allSome_tau]
  cases e : allSome (ru.parts.map (at' fC)) with
  | none => exact S
  | some bs =>
    simp only [Option.map_some]
    rw [told_tau, S ru.sign hs, better_tau hf (fun p hq => hb _ p hq) (told_below hj hb e)]
    split
    · intro s hs'
      rw [at_set, at_set, hl]
      split
      · rfl
      · exact S s hs'
    · exact S
theorem sim_round {come : List Nat} {made : Nat → Bool} (hcl : ∀ p ∈ come, True) : ∀ (rs : List (Rule φ)) (i j : Nat) (sB sC : Fd × Bool),
    (∀ ru ∈ rs, keepR made come ru = true → ∀ p ∈ ru.parts, p ∈ come) →
    (∀ m x, (ixs (keepR made come) i rs)[m]? = some x → f (j + m) = x ∧ j + m < n) →
    (∀ k, Has (roundL i rs sB).1 k → made k = true) →
    Sim f come sB.1 sC.1 → BelowF n sC.1 → sB.1.length = sC.1.length →
    Sim f come (roundL i rs sB).1 (roundL j (rs.filter (keepR made come)) sC).1
  | [], i, j, sB, sC, _, _, _, S, _, _ => S
  | ru :: rs, i, j, sB, sC, hp, hx, hm, S, hb, hl => by
    have hm' : ∀ k, Has (stepL i ru sB).1 k → made k = true := fun k hk => hm k (roundL_has rs (i + 1) _ k hk)
    have hm0 : ∀ k, Has sB.1 k → made k = true := fun k hk => hm' k (stepL_has i ru sB k hk)
    cases hk : keepR made come ru with
    | true =>
      rw [List.filter_cons_of_pos hk]
      show Sim f come (roundL (i + 1) rs (stepL i ru sB)).1 (roundL (j + 1) (rs.filter (keepR made come)) (stepL j ru sC)).1
      have h0 := hx 0 i (by simp [ixs, hk])
      rw [Nat.add_zero] at h0
      have hs : ru.sign ∈ come := by
        unfold keepR at hk
        simp at hk
        exact hk.2
      refine sim_round hcl rs (i + 1) (j + 1) _ _ (fun r hr => hp r (List.mem_cons_of_mem _ hr)) (fun m x h => ?_) hm ?_ (stepL_below (by omega) ru sC hb) (by rw [stepL_len, stepL_len]; exact hl)
      · have := hx (m + 1) x (by simp [ixs, hk]; exact h)
        rw [show j + 1 + m = j + (m + 1) by omega]
        exact this
      · have := sim_keep hf (gb := sB.2) (gc := sC.2) S hb hl (j := j) (ru := ru) (by omega) (hp ru List.mem_cons_self hk) hs
        rw [h0.1] at this
        exact this
    | false =>
      rw [List.filter_cons_of_neg (by rw [hk]; decide)]
      show Sim f come (roundL (i + 1) rs (stepL i ru sB)).1 (roundL j (rs.filter (keepR made come)) sC).1
      refine sim_round hcl rs (i + 1) j _ _ (fun r hr => hp r (List.mem_cons_of_mem _ hr)) (fun m x h => ?_) hm ?_ hb (by rw [stepL_len]; exact hl)
      · exact hx m x (by simp [ixs, hk]; exact h)
      · by_cases hs : ru.sign ∈ come
        · have ha : ¬ ∀ p ∈ ru.parts, made p = true := by
            intro q
            unfold keepR aliveR at hk
            simp [hs] at hk
            obtain ⟨p, h1, h2⟩ := hk
            rw [q p h1] at h2
            cases h2
          have hn : allSome (ru.parts.map (at' sB.1)) = none := by
            rw [allSome_none]
            apply Classical.byContradiction
            intro q
            apply ha
            intro p hp'
            apply hm0
            unfold Has
            cases e : at' sB.1 p with
            | none => exact absurd (List.mem_map.mpr ⟨p, hp', e⟩) q
            | some _ => rfl
          have : stepL i ru sB = sB := by unfold stepL; rw [hn]
          rw [this]
          exact S
        · intro s hs'
          have : at' (stepL i ru sB).1 s = at' sB.1 s := by
            unfold stepL
            split
            · rfl
            · split
              · rw [at_set, if_neg]
                rintro ⟨e, _⟩
                rw [e] at hs
                exact hs hs'
              · rfl
          rw [this]
          exact S s hs'
end
end
end KM
end

section
set_option maxRecDepth 100000
set_option maxHeartbeats 4000000
namespace KM
section
variable {φ : Type}
def init (L : Nat) : Fd := List.replicate L none
theorem at_init (L s : Nat) : at' (init L) s = none := by
  unfold at' init
  rw [List.getD_eq_getElem?_getD, List.getElem?_replicate]
  split <;> rfl
theorem roundL_below {n : Nat} : ∀ (rs : List (Rule φ)) (j : Nat) (s : Fd × Bool), j + rs.length ≤ n → BelowF n s.1 → BelowF n (roundL j rs s).1
  | [], _, _, _, h => h
  | ru :: rs, j, s, hl, h => by
    simp at hl
    exact roundL_below rs (j + 1) _ (by omega) (stepL_below (by omega) ru s h)
theorem iterL_below {n L : Nat} (rs : List (Rule φ)) (hl : rs.length ≤ n) : ∀ m, BelowF n (iterL rs (init L) m)
  | 0 => fun s p h => by
    have h : at' (init L) s = some p := h
    rw [at_init] at h
    cases h
  | m + 1 => roundL_below rs 0 _ (by omega) (iterL_below rs hl m)

/-- the ends of the two runs -/
theorem sim_ends {f : Nat → Nat} {come : List Nat} {rs : List (Rule φ)} {L : Nat} {F F' : Fd}
    (hf : ∀ i j, i < (rs.filter (keepR (fun k => (at' F k).isSome) come)).length → j < (rs.filter (keepR (fun k => (at' F k).isSome) come)).length → i < j → f i < f j)
    (hx : ∀ m x, (ixs (keepR (fun k => (at' F k).isSome) come) 0 rs)[m]? = some x → f m = x)
    (hp : ∀ ru ∈ rs, keepR (fun k => (at' F k).isSome) come ru = true → ∀ p ∈ ru.parts, p ∈ come)
    (hB : RunsL rs (init L) F) (hC : RunsL (rs.filter (keepR (fun k => (at' F k).isSome) come)) (init L) F') : Sim f come F F' := by
  obtain ⟨n, hn⟩ := hB.fix
  obtain ⟨m, hm⟩ := hC.fix
  have key : ∀ k, Sim f come (iterL rs (init L) k) (iterL (rs.filter (keepR (fun k => (at' F k).isSome) come)) (init L) k) := by
    intro k
    induction k with
    | zero => intro s _; rw [show iterL rs (init L) 0 = init L from rfl, show iterL (rs.filter (keepR (fun k => (at' F k).isSome) come)) (init L) 0 = init L from rfl, at_init]; rfl
    | succ k ih =>
      refine sim_round hf (fun _ _ => trivial) rs 0 0 (iterL rs (init L) k, false) (iterL (rs.filter (keepR (fun k => (at' F k).isSome) come)) (init L) k, false) hp (fun a x h => ?_) (fun s hs => ?_) ih (iterL_below _ (Nat.le_refl _) k) ?_
      · rw [Nat.zero_add]
        refine ⟨hx a x h, ?_⟩
        rw [← ixs_len (keepR (fun k => (at' F k).isSome) come) rs 0]
        exact (List.getElem?_eq_some_iff.mp h).1
      · exact hB.has (k + 1) s hs
      · show (iterL rs (init L) k).length = (iterL _ (init L) k).length
        rw [iterL_len, iterL_len]
  have := key (max n m)
  rw [hn _ (Nat.le_max_left _ _), hm _ (Nat.le_max_right _ _)] at this
  exact this

/-- at the end a rule whose parts are made has its sign made -/
theorem stepL_closed {r : Nat} {ru : Rule φ} {fd : Fd} (h : (stepL r ru (fd, false)).2 = false) (hp : ∀ p ∈ ru.parts, Has fd p) : Has fd ru.sign := by
  unfold stepL at h
  simp only at h
  split at h
  · rename_i e
    rw [allSome_none] at e
    obtain ⟨p, h1, h2⟩ := List.mem_map.mp e
    have := hp p h1
    unfold Has at this
    rw [h2] at this
    cases this
  · split at h
    · cases h
    · rename_i hb
      unfold Has
      cases e : at' fd ru.sign with
      | none => rw [e] at hb; exact absurd rfl hb
      | some _ => rfl
theorem roundL_closed : ∀ (rs : List (Rule φ)) (i : Nat) (fd : Fd), (roundL i rs (fd, false)).2 = false → ∀ ru ∈ rs, (∀ p ∈ ru.parts, Has fd p) → Has fd ru.sign
  | [], _, _, _, _, h, _ => by cases h
  | ru :: rs, i, fd, h, x, hx, hp => by
    have h1 : (stepL i ru (fd, false)).2 = false := by
      cases e : (stepL i ru (fd, false)).2 with
      | false => rfl
      | true =>
        have := roundL_up rs (i + 1) _ e
        rw [roundL] at h
        rw [h] at this
        cases this
    rcases List.mem_cons.mp hx with e | hx
    · subst e
      exact stepL_closed h1 hp
    · rw [roundL, stepL_flag i ru _ h1] at h
      exact roundL_closed rs (i + 1) fd h x hx hp
theorem RunsL.closed {rs : List (Rule φ)} {a F : Fd} (h : RunsL rs a F) : ∀ ru ∈ rs, (∀ p ∈ ru.parts, Has F p) → Has F ru.sign := by
  obtain ⟨n, _, h2⟩ := h
  exact roundL_closed rs 0 F h2

/-! ### the signs that come -/
def comeP (sg : Nat) (s : List Nat × Bool) (p : Nat) : List Nat × Bool := if sg ∈ s.1 ∧ p ∉ s.1 then (s.1 ++ [p], true) else s
def comeR (s : List Nat × Bool) (ru : Rule φ) : List Nat × Bool := ru.parts.foldl (comeP ru.sign) s
def comeA (as : List (Rule φ)) (s : List Nat × Bool) : List Nat × Bool := as.foldl comeR s
def iterC (as : List (Rule φ)) (c : List Nat) : Nat → List Nat
  | 0 => c
  | n + 1 => (comeA as (iterC as c n, false)).1
def RunsC (as : List (Rule φ)) (c c' : List Nat) : Prop := ∃ n, iterC as c n = c' ∧ (comeA as (c', false)).2 = false
theorem iterC_succ (as : List (Rule φ)) (c : List Nat) (n : Nat) : iterC as c (n + 1) = iterC as (comeA as (c, false)).1 n := by
  induction n with
  | zero => rfl
  | succ n ih => rw [iterC, ih, iterC]
theorem RunsC.go {as : List (Rule φ)} {c c' : List Nat} (h : RunsC as (comeA as (c, false)).1 c') : RunsC as c c' := by
  obtain ⟨n, h1, h2⟩ := h
  exact ⟨n + 1, by rw [iterC_succ]; exact h1, h2⟩
theorem RunsC.stop {as : List (Rule φ)} {c : List Nat} (h : (comeA as (c, false)).2 = false) : RunsC as c c := ⟨0, rfl, h⟩
theorem comeP_up (sg : Nat) (s : List Nat × Bool) (p : Nat) (h : s.2 = true) : (comeP sg s p).2 = true := by
  unfold comeP; split
  · rfl
  · exact h
theorem comeF_up (sg : Nat) : ∀ (ps : List Nat) (s : List Nat × Bool), s.2 = true → (ps.foldl (comeP sg) s).2 = true
  | [], _, h => h
  | p :: ps, s, h => comeF_up sg ps _ (comeP_up sg s p h)
theorem comeA_up : ∀ (as : List (Rule φ)) (s : List Nat × Bool), s.2 = true → (comeA as s).2 = true
  | [], _, h => h
  | ru :: as, s, h => comeA_up as _ (comeF_up ru.sign ru.parts s h)
theorem comeP_flag {sg p : Nat} {s : List Nat × Bool} (h : (comeP sg s p).2 = false) : comeP sg s p = s ∧ (sg ∈ s.1 → p ∈ s.1) := by
  unfold comeP at h ⊢
  split at h
  · cases h
  · rename_i q
    rw [if_neg q]
    exact ⟨rfl, fun h1 => Classical.byContradiction fun h2 => q ⟨h1, h2⟩⟩
theorem comeF_flag (sg : Nat) : ∀ (ps : List Nat) (s : List Nat × Bool), (ps.foldl (comeP sg) s).2 = false → ps.foldl (comeP sg) s = s ∧ (sg ∈ s.1 → ∀ p ∈ ps, p ∈ s.1)
  | [], s, _ => ⟨rfl, fun _ p hp => by cases hp⟩
  | p :: ps, s, h => by
    have h1 : (comeP sg s p).2 = false := by
      cases e : (comeP sg s p).2 with
      | false => rfl
      | true =>
        have := comeF_up sg ps _ e
        rw [List.foldl_cons] at h
        rw [h] at this; cases this
    obtain ⟨e1, e2⟩ := comeP_flag h1
    rw [List.foldl_cons, e1] at h ⊢
    obtain ⟨e3, e4⟩ := comeF_flag sg ps s h
    refine ⟨e3, fun hs q hq => ?_⟩
    rcases List.mem_cons.mp hq with e | hq
    · rw [e]; exact e2 hs
    · exact e4 hs q hq
theorem comeA_flag : ∀ (as : List (Rule φ)) (s : List Nat × Bool), (comeA as s).2 = false → comeA as s = s ∧ ∀ ru ∈ as, ru.sign ∈ s.1 → ∀ p ∈ ru.parts, p ∈ s.1
  | [], s, _ => ⟨rfl, fun _ h => by cases h⟩
  | ru :: as, s, h => by
    have h1 : (comeR s ru).2 = false := by
      cases e : (comeR s ru).2 with
      | false => rfl
      | true =>
        have := comeA_up as _ e
        have h : (comeA as (comeR s ru)).2 = false := h
        rw [h] at this; cases this
    obtain ⟨e1, e2⟩ := comeF_flag ru.sign ru.parts s h1
    have e1 : comeR s ru = s := e1
    have h : (comeA as (comeR s ru)).2 = false := h
    rw [e1] at h
    obtain ⟨e3, e4⟩ := comeA_flag as s h
    refine ⟨?_, fun r hr => ?_⟩
    · show comeA as (comeR s ru) = s
      rw [e1, e3]
    · rcases List.mem_cons.mp hr with e | hr
      · rw [e]; exact e2
      · exact e4 r hr
theorem RunsC.fix {as : List (Rule φ)} {c c' : List Nat} (h : RunsC as c c') : ∃ n, ∀ m, n ≤ m → iterC as c m = c' := by
  obtain ⟨n, h1, h2⟩ := h
  have hf := (comeA_flag as (c', false) h2).1
  refine ⟨n, fun m hm => ?_⟩
  obtain ⟨k, rfl⟩ := Nat.exists_eq_add_of_le hm
  clear hm
  induction k with
  | zero => exact h1
  | succ k ih =>
    show (comeA as (iterC as c (n + k), false)).1 = c'
    rw [ih, hf]
theorem RunsC.uniq {as : List (Rule φ)} {c c' c'' : List Nat} (h : RunsC as c c') (h' : RunsC as c c'') : c' = c'' := by
  obtain ⟨n, hn⟩ := h.fix
  obtain ⟨m, hm⟩ := h'.fix
  rw [← hn _ (Nat.le_max_left n m), ← hm _ (Nat.le_max_right n m)]
theorem RunsL.uniq {rs : List (Rule φ)} {c c' c'' : Fd} (h : RunsL rs c c') (h' : RunsL rs c c'') : c' = c'' := by
  obtain ⟨n, hn⟩ := h.fix
  obtain ⟨m, hm⟩ := h'.fix
  rw [← hn _ (Nat.le_max_left n m), ← hm _ (Nat.le_max_right n m)]
theorem RunsC.closed {as : List (Rule φ)} {c c' : List Nat} (h : RunsC as c c') : ∀ ru ∈ as, ru.sign ∈ c' → ∀ p ∈ ru.parts, p ∈ c' := by
  obtain ⟨n, _, h2⟩ := h
  exact (comeA_flag as (c', false) h2).2
theorem comeP_sub (sg : Nat) (s : List Nat × Bool) (p k : Nat) (h : k ∈ s.1) : k ∈ (comeP sg s p).1 := by
  unfold comeP; split
  · exact List.mem_append_left _ h
  · exact h
theorem comeF_sub (sg : Nat) : ∀ (ps : List Nat) (s : List Nat × Bool) (k : Nat), k ∈ s.1 → k ∈ (ps.foldl (comeP sg) s).1
  | [], _, _, h => h
  | p :: ps, s, k, h => comeF_sub sg ps _ k (comeP_sub sg s p k h)
theorem comeA_sub : ∀ (as : List (Rule φ)) (s : List Nat × Bool) (k : Nat), k ∈ s.1 → k ∈ (comeA as s).1
  | [], _, _, h => h
  | ru :: as, s, k, h => comeA_sub as _ k (comeF_sub ru.sign ru.parts s k h)
theorem iterC_sub (as : List (Rule φ)) (c : List Nat) (n m k : Nat) (h : k ∈ iterC as c n) : k ∈ iterC as c (n + m) := by
  induction m with
  | zero => exact h
  | succ m ih => exact comeA_sub as _ k ih
theorem RunsC.sub {as : List (Rule φ)} {c c' : List Nat} (h : RunsC as c c') (n k : Nat) (hk : k ∈ iterC as c n) : k ∈ c' := by
  obtain ⟨m, hm⟩ := h.fix
  have := iterC_sub as c n m k hk
  rw [hm (n + m) (by omega)] at this
  exact this
theorem comeF_out {sg : Nat} : ∀ (ps : List Nat) (s : List Nat × Bool), sg ∉ s.1 → ps.foldl (comeP sg) s = s
  | [], _, _ => rfl
  | p :: ps, s, h => by
    have e : comeP sg s p = s := by
      unfold comeP
      rw [if_neg fun q => h q.1]
    rw [List.foldl_cons, e]
    exact comeF_out ps s h
/-- rules whose sign never comes may be left out -/
theorem comeA_filter {come : List Nat} : ∀ (as : List (Rule φ)) (s : List Nat × Bool), (∀ k ∈ (comeA as s).1, k ∈ come) → comeA as s = comeA (as.filter fun ru => decide (ru.sign ∈ come)) s
  | [], _, _ => rfl
  | ru :: as, s, h => by
    have h : ∀ k ∈ (comeA as (comeR s ru)).1, k ∈ come := h
    by_cases hs : ru.sign ∈ come
    · rw [List.filter_cons_of_pos (by simpa using hs)]
      exact comeA_filter as (comeR s ru) h
    · rw [List.filter_cons_of_neg (by simpa using hs)]
      have hn : ru.sign ∉ s.1 := fun q => hs (h _ (comeA_sub as _ _ (comeF_sub ru.sign ru.parts s _ q)))
      have e : comeR s ru = s := comeF_out ru.parts s hn
      show comeA as (comeR s ru) = _
      rw [e]
      rw [e] at h
      exact comeA_filter as s h
theorem RunsC.filter {as : List (Rule φ)} {c come : List Nat} (h : RunsC as c come) : RunsC (as.filter fun ru => decide (ru.sign ∈ come)) c come := by
  have key : ∀ n, iterC (as.filter fun ru => decide (ru.sign ∈ come)) c n = iterC as c n := by
    intro n
    induction n with
    | zero => rfl
    | succ n ih =>
      show (comeA _ (iterC _ c n, false)).1 = (comeA as (iterC as c n, false)).1
      rw [ih, ← comeA_filter as]
      intro k hk
      exact h.sub (n + 1) k hk
  obtain ⟨n, h1, h2⟩ := h
  refine ⟨n, by rw [key]; exact h1, ?_⟩
  rw [← comeA_filter as, h2]
  intro k hk
  rw [(comeA_flag as (come, false) h2).1] at hk
  exact hk
end
end KM
end

section
set_option maxRecDepth 100000
set_option maxHeartbeats 4000000
namespace KM
section
variable {φ : Type}
/-! ### the counts -/
def parted : Nat → Nat → List (List Nat)
  | total, 0 => if total = 0 then [[]] else []
  | total, m + 1 => (List.range (total - m)).flatMap fun i => (parted (total - (i + 1)) m).map ((i + 1) :: ·)
theorem parted_len : ∀ (m total : Nat), ∀ sp ∈ parted total m, sp.length = m
  | 0, total, sp, h => by
    unfold parted at h
    split at h
    · have : sp = [] := by simpa using h
      rw [this] <;> rfl
    · cases h
  | m + 1, total, sp, h => by
    unfold parted at h
    obtain ⟨i, _, h⟩ := List.mem_flatMap.mp h
    obtain ⟨q, hq, rfl⟩ := List.mem_map.mp h
    simp [parted_len m _ q hq]
theorem parted_le : ∀ (m total : Nat), ∀ sp ∈ parted total m, ∀ c ∈ sp, 1 ≤ c ∧ c ≤ total
  | 0, total, sp, h, c, hc => by
    unfold parted at h
    split at h
    · have : sp = [] := by simpa using h
      rw [this] at hc; cases hc
    · cases h
  | m + 1, total, sp, h, c, hc => by
    unfold parted at h
    obtain ⟨i, hi, h⟩ := List.mem_flatMap.mp h
    obtain ⟨q, hq, rfl⟩ := List.mem_map.mp h
    have hi := List.mem_range.mp hi
    rcases List.mem_cons.mp hc with e | hc
    · omega
    · have := parted_le m _ q hq c hc
      omega
def cell (rows : List (List Nat)) (c p : Nat) : Nat := (rows.getD c []).getD p 0
def ways (rows : List (List Nat)) (sp parts : List Nat) : Nat := (sp.zip parts).foldl (fun w q => w * cell rows q.1 q.2) 1
def freshS (rows : List (List Nat)) (sign : Nat) (parts : List Nat) (fr : List Nat) (sp : List Nat) : List Nat := fr.set sign (fr.getD sign 0 + ways rows sp parts)
def freshR (rows : List (List Nat)) (k : Nat) (fr : List Nat) (ru : Rule φ) : List Nat := (parted (k - 1) ru.parts.length).foldl (freshS rows ru.sign ru.parts) fr
def freshOf (rs : List (Rule φ)) (rows : List (List Nat)) (L k : Nat) : List Nat := rs.foldl (freshR rows k) (List.replicate L 0)
def countsN (rs : List (Rule φ)) (L : Nat) : Nat → List (List Nat)
  | 0 => [List.replicate L 0]
  | k + 1 => countsN rs L k ++ [freshOf rs (countsN rs L k) L (k + 1)]
theorem countsN_len (rs : List (Rule φ)) (L k : Nat) : (countsN rs L k).length = k + 1 := by
  induction k with
  | zero => rfl
  | succ k ih => simp [countsN, ih]
/-- how many trees a sign has by the rules of its own, each by all splits -/
def valR (rows : List (List Nat)) (k : Nat) (ru : Rule φ) : Nat := ((parted (k - 1) ru.parts.length).map fun sp => ways rows sp ru.parts).sum
def val (rs : List (Rule φ)) (rows : List (List Nat)) (k s : Nat) : Nat := ((rs.filter fun ru => decide (ru.sign = s)).map (valR rows k)).sum
theorem freshF_len (rows : List (List Nat)) (sign : Nat) (parts : List Nat) : ∀ (sps : List (List Nat)) (fr : List Nat), (sps.foldl (freshS rows sign parts) fr).length = fr.length
  | [], _ => rfl
  | sp :: sps, fr => by rw [List.foldl_cons, freshF_len rows sign parts sps]; unfold freshS; simp
theorem freshF_get (rows : List (List Nat)) (sign : Nat) (parts : List Nat) (s : Nat) : ∀ (sps : List (List Nat)) (fr : List Nat), sign < fr.length →
    (sps.foldl (freshS rows sign parts) fr).getD s 0 = fr.getD s 0 + (if sign = s then (sps.map fun sp => ways rows sp parts).sum else 0)
  | [], fr, _ => by simp
  | sp :: sps, fr, h => by
    rw [List.foldl_cons, freshF_get rows sign parts s sps _ (by unfold freshS; simpa using h)]
    unfold freshS
    rw [List.getD_eq_getElem?_getD, List.getElem?_set]
    by_cases e : sign = s
    · subst e
      simp [h]
      omega
    · simp [e]
theorem freshR_len (rows : List (List Nat)) (k : Nat) (fr : List Nat) (ru : Rule φ) : (freshR rows k fr ru).length = fr.length := freshF_len _ _ _ _ _
theorem freshA_get (rows : List (List Nat)) (k s : Nat) : ∀ (rs : List (Rule φ)) (fr : List Nat), (∀ ru ∈ rs, ru.sign < fr.length) → (rs.foldl (freshR rows k) fr).getD s 0 = fr.getD s 0 + val rs rows k s
  | [], fr, _ => by simp [val]
  | ru :: rs, fr, h => by
    rw [List.foldl_cons, freshA_get rows k s rs _ (fun r hr => by rw [freshR_len]; exact h r (List.mem_cons_of_mem _ hr))]
    unfold freshR
    rw [freshF_get _ _ _ _ _ _ (h ru List.mem_cons_self)]
    unfold val
    by_cases e : ru.sign = s
    · rw [List.filter_cons_of_pos (by simpa using e), List.map_cons, List.sum_cons, if_pos e]
      unfold valR
      omega
    · rw [List.filter_cons_of_neg (by simpa using e), if_neg e]
      omega
theorem freshA_len (rows : List (List Nat)) (k : Nat) : ∀ (rs : List (Rule φ)) (fr : List Nat), (rs.foldl (freshR rows k) fr).length = fr.length
  | [], _ => rfl
  | ru :: rs, fr => by rw [List.foldl_cons, freshA_len rows k rs, freshR_len]
theorem freshOf_get {rs : List (Rule φ)} {rows : List (List Nat)} {L k s : Nat} (h : ∀ ru ∈ rs, ru.sign < L) : (freshOf rs rows L k).getD s 0 = val rs rows k s := by
  unfold freshOf
  rw [freshA_get rows k s rs _ (fun r hr => by rw [List.length_replicate]; exact h r hr)]
  have : (List.replicate L 0).getD s 0 = 0 := by
    rw [List.getD_eq_getElem?_getD, List.getElem?_replicate]
    split <;> rfl
  omega
/-- the rows ahead stay -/
theorem cell_succ {rs : List (Rule φ)} {L k c s : Nat} (h : c ≤ k) : cell (countsN rs L (k + 1)) c s = cell (countsN rs L k) c s := by
  have e : (countsN rs L (k + 1)).getD c [] = (countsN rs L k).getD c [] := by
    rw [show countsN rs L (k + 1) = countsN rs L k ++ [freshOf rs (countsN rs L k) L (k + 1)] from rfl, List.getD_eq_getElem?_getD, List.getD_eq_getElem?_getD, List.getElem?_append_left (by rw [countsN_len]; omega)]
  unfold cell
  rw [e]
theorem cell_add {rs : List (Rule φ)} {L k c s : Nat} (m : Nat) (h : c ≤ k) : cell (countsN rs L (k + m)) c s = cell (countsN rs L k) c s := by
  induction m with
  | zero => rfl
  | succ m ih => rw [← Nat.add_assoc, cell_succ (by omega), ih]
theorem cell_le {rs : List (Rule φ)} {L k c s : Nat} (h : c ≤ k) : cell (countsN rs L k) c s = cell (countsN rs L c) c s := by
  obtain ⟨m, rfl⟩ := Nat.exists_eq_add_of_le h
  exact cell_add m (Nat.le_refl _)
theorem cell_out {rs : List (Rule φ)} {L k c s : Nat} (h : k < c) : cell (countsN rs L k) c s = 0 := by
  have e : (countsN rs L k).getD c [] = [] := by
    rw [List.getD_eq_getElem?_getD, List.getElem?_eq_none (by rw [countsN_len]; omega)] <;> rfl
  unfold cell
  rw [e] <;> rfl
theorem cell_zero {rs : List (Rule φ)} {L s : Nat} : cell (countsN rs L 0) 0 s = 0 := by
  unfold cell countsN
  show (List.replicate L 0).getD s 0 = 0
  rw [List.getD_eq_getElem?_getD, List.getElem?_replicate]
  split <;> rfl
theorem cell_top {rs : List (Rule φ)} {L k s : Nat} (h : ∀ ru ∈ rs, ru.sign < L) : cell (countsN rs L (k + 1)) (k + 1) s = val rs (countsN rs L k) (k + 1) s := by
  have e : (countsN rs L (k + 1)).getD (k + 1) [] = freshOf rs (countsN rs L k) L (k + 1) := by
    rw [show countsN rs L (k + 1) = countsN rs L k ++ [freshOf rs (countsN rs L k) L (k + 1)] from rfl, List.getD_eq_getElem?_getD, List.getElem?_append_right (by rw [countsN_len]; omega), countsN_len, Nat.sub_self] <;> rfl
  unfold cell
  rw [e]
  exact freshOf_get h
/-- ways by cells alone -/
theorem ways_eq {rows rows' : List (List Nat)} : ∀ (sp parts : List Nat) (w : Nat), (∀ c ∈ sp, ∀ p ∈ parts, cell rows c p = cell rows' c p) →
    (sp.zip parts).foldl (fun w q => w * cell rows q.1 q.2) w = (sp.zip parts).foldl (fun w q => w * cell rows' q.1 q.2) w
  | [], parts, w, _ => rfl
  | c :: sp, [], w, _ => rfl
  | c :: sp, p :: parts, w, h => by
    rw [List.zip_cons_cons, List.foldl_cons, List.foldl_cons, h c List.mem_cons_self p List.mem_cons_self]
    exact ways_eq sp parts _ fun c' hc p' hp => h c' (List.mem_cons_of_mem _ hc) p' (List.mem_cons_of_mem _ hp)
theorem foldl_zero {rows : List (List Nat)} : ∀ (l : List (Nat × Nat)), l.foldl (fun w q => w * cell rows q.1 q.2) 0 = 0
  | [] => rfl
  | q :: l => by rw [List.foldl_cons, Nat.zero_mul]; exact foldl_zero l
theorem ways_zero {rows : List (List Nat)} : ∀ (sp parts : List Nat) (w : Nat), sp.length = parts.length → (∃ p ∈ parts, ∀ c, cell rows c p = 0) → (sp.zip parts).foldl (fun w q => w * cell rows q.1 q.2) w = 0
  | [], [], _, _, ⟨p, h, _⟩ => by cases h
  | [], _ :: _, _, h, _ => by cases h
  | _ :: _, [], _, h, _ => by cases h
  | c :: sp, p :: parts, w, h, ⟨q, hq, hz⟩ => by
    rw [List.zip_cons_cons, List.foldl_cons]
    rcases List.mem_cons.mp hq with e | hq
    · subst e
      rw [hz c, Nat.mul_zero]
      exact foldl_zero _
    · exact ways_zero sp parts _ (by simpa using h) ⟨q, hq, hz⟩
theorem valR_zero {rows : List (List Nat)} {k : Nat} {ru : Rule φ} (h : ∃ p ∈ ru.parts, ∀ c, cell rows c p = 0) : valR rows k ru = 0 := by
  unfold valR
  have : ((parted (k - 1) ru.parts.length).map fun sp => ways rows sp ru.parts) = (parted (k - 1) ru.parts.length).map fun _ => 0 :=
    List.map_congr_left fun sp hsp => ways_zero sp ru.parts 1 (parted_len _ _ sp hsp) h
  rw [this]
  generalize parted (k - 1) ru.parts.length = l
  induction l with
  | nil => rfl
  | cons x l ih => simpa using ih
theorem sum_zero {l : List Nat} (h : ∀ x ∈ l, x = 0) : l.sum = 0 := by
  induction l with
  | nil => rfl
  | cons x l ih =>
    rw [List.sum_cons, h x List.mem_cons_self, ih fun y hy => h y (List.mem_cons_of_mem _ hy)]
/-- a sign without trees has none of any count -/
theorem cell_none {rs : List (Rule φ)} {L : Nat} {F : Fd} {a : Fd} (hL : ∀ ru ∈ rs, ru.sign < L) (hF : RunsL rs a F) : ∀ (k c s : Nat), ¬ Has F s → cell (countsN rs L k) c s = 0 := by
  intro k
  induction k with
  | zero =>
    intro c s _
    cases c with
    | zero => exact cell_zero
    | succ c => exact cell_out (by omega)
  | succ k ih =>
    intro c s hs
    by_cases h1 : c ≤ k
    · rw [cell_succ h1]; exact ih c s hs
    · by_cases h2 : c = k + 1
      · subst h2
        rw [cell_top hL]
        unfold val
        refine sum_zero fun x hx => ?_
        obtain ⟨ru, hru, rfl⟩ := List.mem_map.mp hx
        obtain ⟨hm, he⟩ := List.mem_filter.mp hru
        have he : ru.sign = s := by simpa using he
        refine valR_zero ?_
        apply Classical.byContradiction
        intro q
        apply hs
        rw [← he]
        refine hF.closed ru hm fun p hp => ?_
        apply Classical.byContradiction
        intro hn
        exact q ⟨p, hp, fun c => ih c p hn⟩
      · exact cell_out (by omega)
/-- on the signs that come both books count alike -/
theorem cell_cut {rs : List (Rule φ)} {L : Nat} {F a : Fd} {come : List Nat} (hL : ∀ ru ∈ rs, ru.sign < L) (hF : RunsL rs a F)
    (hp : ∀ ru ∈ rs, keepR (fun k => (at' F k).isSome) come ru = true → ∀ p ∈ ru.parts, p ∈ come) :
    ∀ (k c s : Nat), s ∈ come → cell (countsN (rs.filter (keepR (fun k => (at' F k).isSome) come)) L k) c s = cell (countsN rs L k) c s := by
  have hL' : ∀ ru ∈ rs.filter (keepR (fun k => (at' F k).isSome) come), ru.sign < L := fun ru h => hL ru (List.mem_filter.mp h).1
  intro k
  induction k with
  | zero =>
    intro c s _
    cases c with
    | zero => rw [cell_zero, cell_zero]
    | succ c => rw [cell_out (by omega), cell_out (by omega)]
  | succ k ih =>
    intro c s hs
    by_cases h1 : c ≤ k
    · rw [cell_succ h1, cell_succ h1]; exact ih c s hs
    · by_cases h2 : c = k + 1
      · subst h2
        rw [cell_top hL, cell_top hL']
        unfold val
        -- rule by rule
        have : ∀ l : List (Rule φ), (∀ ru ∈ l, ru ∈ rs) → (((l.filter (keepR (fun k => (at' F k).isSome) come)).filter fun ru => decide (ru.sign = s)).map (valR (countsN (rs.filter (keepR (fun k => (at' F k).isSome) come)) L k) (k + 1))).sum =
            ((l.filter fun ru => decide (ru.sign = s)).map (valR (countsN rs L k) (k + 1))).sum := by
          intro l
          induction l with
          | nil => intro _; rfl
          | cons ru l ihl =>
            intro hl
            have ihl := ihl fun r hr => hl r (List.mem_cons_of_mem _ hr)
            have hru := hl ru List.mem_cons_self
            by_cases he : ru.sign = s
            · rw [List.filter_cons_of_pos (p := fun ru : Rule φ => decide (ru.sign = s)) (by simpa using he)]
              cases hk : keepR (fun k => (at' F k).isSome) come ru with
              | true =>
                rw [List.filter_cons_of_pos hk, List.filter_cons_of_pos (p := fun ru : Rule φ => decide (ru.sign = s)) (by simpa using he), List.map_cons, List.map_cons, List.sum_cons, List.sum_cons, ihl]
                congr 1
                unfold valR
                congr 1
                refine List.map_congr_left fun sp _ => ?_
                unfold ways
                exact ways_eq sp ru.parts 1 fun c _ p hp' => ih c p (hp ru hru hk p hp')
              | false =>
                rw [List.filter_cons_of_neg (by rw [hk]; decide), List.map_cons, List.sum_cons, ihl]
                have hz : valR (countsN rs L k) (k + 1) ru = 0 := by
                  refine valR_zero ?_
                  unfold keepR aliveR at hk
                  rw [he] at hk
                  simp [hs] at hk
                  obtain ⟨p, h1, h2⟩ := hk
                  exact ⟨p, h1, fun c => cell_none hL hF k c p (by unfold Has; rw [h2]; decide)⟩
                omega
            · rw [List.filter_cons_of_neg (p := fun ru : Rule φ => decide (ru.sign = s)) (by simpa using he)]
              cases hk : keepR (fun k => (at' F k).isSome) come ru with
              | true => rw [List.filter_cons_of_pos hk, List.filter_cons_of_neg (p := fun ru : Rule φ => decide (ru.sign = s)) (by simpa using he)]; exact ihl
              | false => rw [List.filter_cons_of_neg (by rw [hk]; decide)]; exact ihl
        exact this rs fun _ h => h
      · rw [cell_out (by omega), cell_out (by omega)]
end
end KM
end

section
set_option maxRecDepth 100000
set_option maxHeartbeats 4000000
namespace KM
section
variable {φ : Type}
/-! ### the lists of trees -/
def choices : List (List T) → List (List T) := fun rows => rows.foldl (fun found row => found.flatMap fun some' => row.map fun one => some' ++ [one]) [[]]
def allPos (rows : List (List Nat)) (sp parts : List Nat) : Bool := (sp.zip parts).all fun q => decide (0 < cell rows q.1 q.2)
/-- what one rule brings -/
def bring (rec : Nat → Nat → List T) (rows : List (List Nat)) (sign knots i : Nat) (ru : Rule φ) : List T :=
  (parted (knots - 1) ru.parts.length).flatMap fun sp => if ru.sign = sign ∧ allPos rows sp ru.parts = true then (choices ((sp.zip ru.parts).map fun q => rec q.2 q.1)).map (T.mk i) else []
def bringA (rec : Nat → Nat → List T) (rows : List (List Nat)) (sign knots : Nat) : Nat → List (Rule φ) → List T
  | _, [] => []
  | i, ru :: rs => bring rec rows sign knots i ru ++ bringA rec rows sign knots (i + 1) rs
def leT (a b : T) : Bool := !T.lt b a
/-- n: more than the knots -/
def treesF (rs : List (Rule φ)) (rows : List (List Nat)) : Nat → Nat → Nat → List T
  | 0, _, _ => []
  | n + 1, sign, knots => (bringA (treesF rs rows n) rows sign knots 0 rs).mergeSort leT
theorem choices_map (f : Nat → Nat) : ∀ (rows : List (List T)) (acc : List (List T)),
    (rows.map (List.map (T.turn f))).foldl (fun found row => found.flatMap fun some' => row.map fun one => some' ++ [one]) (acc.map (List.map (T.turn f))) =
      (rows.foldl (fun found row => found.flatMap fun some' => row.map fun one => some' ++ [one]) acc).map (List.map (T.turn f))
  | [], acc => rfl
  | row :: rows, acc => by
    rw [List.map_cons, List.foldl_cons, List.foldl_cons]
    have e : ((acc.map (List.map (T.turn f))).flatMap fun some' => (row.map (T.turn f)).map fun one => some' ++ [one]) = (acc.flatMap fun some' => row.map fun one => some' ++ [one]).map (List.map (T.turn f)) := by
      rw [List.flatMap_map, List.map_flatMap]
      congr 1
      funext x
      simp [List.map_map, Function.comp_def]
    rw [e]
    exact choices_map f rows _
/-- what the lists of choices are made of -/
theorem choices_mem : ∀ (rows : List (List T)) (acc : List (List T)) (P : T → Prop), (∀ l ∈ acc, ∀ t ∈ l, P t) → (∀ row ∈ rows, ∀ t ∈ row, P t) →
    ∀ l ∈ rows.foldl (fun found row => found.flatMap fun some' => row.map fun one => some' ++ [one]) acc, ∀ t ∈ l, P t
  | [], acc, P, ha, _ => ha
  | row :: rows, acc, P, ha, hr => by
    rw [List.foldl_cons]
    refine choices_mem rows _ P (fun l hl t ht => ?_) fun r h => hr r (List.mem_cons_of_mem _ h)
    obtain ⟨x, hx, hl⟩ := List.mem_flatMap.mp hl
    obtain ⟨o, ho, rfl⟩ := List.mem_map.mp hl
    rcases List.mem_append.mp ht with ht | ht
    · exact ha x hx t ht
    · have : t = o := by simpa using ht
      rw [this]
      exact hr row List.mem_cons_self o ho
theorem choices_lens : ∀ (rows : List (List T)) (acc : List (List T)) (m : Nat), (∀ l ∈ acc, l.length = m) →
    ∀ l ∈ rows.foldl (fun found row => found.flatMap fun some' => row.map fun one => some' ++ [one]) acc, l.length = m + rows.length
  | [], acc, m, ha => ha
  | row :: rows, acc, m, ha => by
    rw [List.foldl_cons]
    intro l hl
    have := choices_lens rows (acc.flatMap fun some' => row.map fun one => some' ++ [one]) (m + 1) (fun l hl => by
      obtain ⟨x, hx, hl⟩ := List.mem_flatMap.mp hl
      obtain ⟨o, ho, rfl⟩ := List.mem_map.mp hl
      simp [ha x hx]) l hl
    rw [this, List.length_cons]
    omega
theorem choices_len : ∀ (rows : List (List T)) (acc : List (List T)), (rows.foldl (fun found row => found.flatMap fun some' => row.map fun one => some' ++ [one]) acc).length = rows.foldl (fun w row => w * row.length) acc.length
  | [], acc => rfl
  | row :: rows, acc => by
    rw [List.foldl_cons, List.foldl_cons, choices_len rows]
    congr 1
    induction acc with
    | nil => simp
    | cons x acc ih => rw [List.flatMap_cons, List.length_append, ih, List.length_map, List.length_cons, Nat.succ_mul, Nat.add_comm]
/-- a height -/
def _root_.KM.T.hgt : T → Nat | .n0 _ => 1 | .n1 _ a => 1 + a.hgt | .n2 _ a b => 1 + max a.hgt b.hgt
theorem hgt_mk {r n : Nat} : ∀ (l : List T), (∀ t ∈ l, t.hgt ≤ n) → (T.mk r l).hgt ≤ n + 1
  | [], _ => by simp [T.mk, T.hgt]
  | [a], h => by
    have := h a (by simp)
    simp [T.mk, T.hgt]; omega
  | a :: b :: l, h => by
    have := h a (by simp)
    have := h b (by simp)
    simp [T.mk, T.hgt]; omega
theorem hgt_knots (t : T) : t.hgt ≤ t.knots := by
  induction t with
  | n0 r => simp [T.hgt, T.knots]
  | n1 r a ih => simp [T.hgt, T.knots]; omega
  | n2 r a b ih ih' =>
    have := T.knots_pos a
    have := T.knots_pos b
    simp [T.hgt, T.knots]; omega
theorem bringA_mem {rec : Nat → Nat → List T} {rows : List (List Nat)} {sign knots : Nat} {P : T → Prop} : ∀ (rs : List (Rule φ)) (i : Nat),
    (∀ j ru, rs[j]? = some ru → ∀ t ∈ bring rec rows sign knots (i + j) ru, P t) → ∀ t ∈ bringA rec rows sign knots i rs, P t
  | [], _, _, t, h => by cases h
  | ru :: rs, i, hp, t, h => by
    rcases List.mem_append.mp h with h | h
    · exact hp 0 ru (by simp) t h
    · refine bringA_mem rs (i + 1) (fun j r hj t ht => hp (j + 1) r (by simpa using hj) t ?_) t h
      rw [show i + (j + 1) = i + 1 + j by omega]
      exact ht
theorem bring_mem {rec : Nat → Nat → List T} {rows : List (List Nat)} {sign knots i : Nat} {ru : Rule φ} {t : T} (h : t ∈ bring rec rows sign knots i ru) :
    ru.sign = sign ∧ ∃ sp l, sp ∈ parted (knots - 1) ru.parts.length ∧ allPos rows sp ru.parts = true ∧ t = T.mk i l ∧ (∀ P : T → Prop, (∀ q ∈ sp.zip ru.parts, ∀ x ∈ rec q.2 q.1, P x) → ∀ x ∈ l, P x) ∧ l.length = ru.parts.length := by
  unfold bring at h
  obtain ⟨sp, hsp, h⟩ := List.mem_flatMap.mp h
  split at h
  · rename_i hc
    obtain ⟨l, hl, rfl⟩ := List.mem_map.mp h
    refine ⟨hc.1, sp, l, hsp, hc.2, rfl, fun P hP x hx => ?_, ?_⟩
    · refine choices_mem _ [[]] P (fun l hl t ht => ?_) (fun row hr t ht => ?_) l hl x hx
      · have : l = [] := by simpa using hl
        rw [this] at ht; cases ht
      · obtain ⟨q, hq, rfl⟩ := List.mem_map.mp hr
        exact hP q hq t ht
    · have := choices_lens _ [[]] 0 (fun l hl => by have : l = [] := by simpa using hl
                                                    rw [this] <;> rfl) l hl
      rw [this, List.length_map, List.length_zip, parted_len _ _ sp hsp]
      omega
  · cases h
theorem treesF_hgt (rs : List (Rule φ)) (rows : List (List Nat)) : ∀ (n s k : Nat), ∀ t ∈ treesF rs rows n s k, t.hgt ≤ n
  | 0, _, _, t, h => by cases h
  | n + 1, s, k, t, h => by
    have h : t ∈ bringA (treesF rs rows n) rows s k 0 rs := List.mem_mergeSort.mp h
    refine bringA_mem (P := fun t => t.hgt ≤ n + 1) rs 0 (fun j ru _ t ht => ?_) t h
    obtain ⟨_, sp, l, _, _, rfl, hl, _⟩ := bring_mem ht
    exact hgt_mk l (hl (fun x => x.hgt ≤ n) fun q _ x hx => treesF_hgt rs rows n _ _ x hx)
theorem treesF_below (rs : List (Rule φ)) (rows : List (List Nat)) : ∀ (n s k : Nat), ∀ t ∈ treesF rs rows n s k, T.Below rs.length t
  | 0, _, _, t, h => by cases h
  | n + 1, s, k, t, h => by
    have h : t ∈ bringA (treesF rs rows n) rows s k 0 rs := List.mem_mergeSort.mp h
    refine bringA_mem (P := fun t => T.Below rs.length t) rs 0 (fun j ru hj t ht => ?_) t h
    obtain ⟨_, sp, l, _, _, rfl, hl, _⟩ := bring_mem ht
    have := (List.getElem?_eq_some_iff.mp hj).1
    exact below_mk (by omega) l (hl (fun x => T.Below rs.length x) fun q _ x hx => treesF_below rs rows n _ _ x hx)
theorem leT_trans (a b c : T) (h1 : leT a b = true) (h2 : leT b c = true) : leT a c = true := by
  unfold leT at *
  simp only [Bool.not_eq_true'] at *
  cases e : T.lt c a with
  | false => rfl
  | true =>
    cases e2 : T.lt c b with
    | true => rw [e2] at h2; cases h2
    | false =>
      cases e3 : T.lt b c with
      | true => rw [T.lt_trans b c a e3 e] at h1; cases h1
      | false =>
        have := T.lt_tri b c e3 e2
        rw [this, e] at h1
        cases h1
theorem leT_total (a b : T) : (leT a b || leT b a) = true := by
  unfold leT
  cases e : T.lt b a with
  | false => rfl
  | true => rw [T.lt_asym b a e] <;> rfl
theorem leT_anti {a b : T} (h1 : leT a b = true) (h2 : leT b a = true) : a = b := by
  unfold leT at *
  exact T.lt_tri a b (by simpa using h2) (by simpa using h1)
/-- there is one sorted list -/
theorem sorted_uniq : ∀ (l m : List T), l.Perm m → l.Pairwise (fun a b => leT a b = true) → m.Pairwise (fun a b => leT a b = true) → l = m
  | [], m, p, _, _ => (p.symm.eq_nil).symm
  | a :: l, m, p, hl, hm => by
    cases m with
    | nil => exact absurd p.length_eq (by simp)
    | cons b m =>
      have hl' := List.pairwise_cons.mp hl
      have hm' := List.pairwise_cons.mp hm
      have e : a = b := by
        rcases List.mem_cons.mp (p.mem_iff.mp (List.mem_cons_self (a := a) (l := l))) with e | ha
        · exact e
        · rcases List.mem_cons.mp (p.mem_iff.mpr (List.mem_cons_self (a := b) (l := m))) with e | hb
          · exact e.symm
          · exact leT_anti (hl'.1 b hb) (hm'.1 a ha)
      subst e
      rw [sorted_uniq l m p.cons_inv hl'.2 hm'.2]
theorem treesF_uniq {rs : List (Rule φ)} {rows : List (List Nat)} {n s k : Nat} {l : List T} (h : l.Perm (bringA (treesF rs rows n) rows s k 0 rs)) (hs : l.Pairwise (fun a b => leT a b = true)) : l = treesF rs rows (n + 1) s k :=
  sorted_uniq l _ (h.trans (List.mergeSort_perm _ _).symm) hs (List.pairwise_mergeSort leT_trans leT_total _)

/-- rule by rule: the two lists -/
theorem bringA_cut {f : Nat → Nat} {come : List Nat} {F : Fd} {recB recC : Nat → Nat → List T} {rowsB rowsC : List (List Nat)} {sign knots : Nat} (hs : sign ∈ come)
    (hrec : ∀ p ∈ come, ∀ c, recB p c = (recC p c).map (T.turn f)) (hrow : ∀ c, ∀ p ∈ come, cell rowsC c p = cell rowsB c p) (hno : ∀ c p, ¬ Has F p → cell rowsB c p = 0) :
    ∀ (rs : List (Rule φ)) (i j : Nat), (∀ ru ∈ rs, keepR (fun k => (at' F k).isSome) come ru = true → ∀ p ∈ ru.parts, p ∈ come) →
      (∀ m x, (ixs (keepR (fun k => (at' F k).isSome) come) i rs)[m]? = some x → f (j + m) = x) →
      bringA recB rowsB sign knots i rs = (bringA recC rowsC sign knots j (rs.filter (keepR (fun k => (at' F k).isSome) come))).map (T.turn f)
  | [], _, _, _, _ => rfl
  | ru :: rs, i, j, hp, hx => by
    cases hk : keepR (fun k => (at' F k).isSome) come ru with
    | true =>
      rw [List.filter_cons_of_pos hk]
      show bring recB rowsB sign knots i ru ++ bringA recB rowsB sign knots (i + 1) rs = (bring recC rowsC sign knots j ru ++ bringA recC rowsC sign knots (j + 1) _).map (T.turn f)
      rw [List.map_append]
      have h0 : f j = i := by
        have := hx 0 i (by simp [ixs, hk])
        simpa using this
      have ih := bringA_cut (knots := knots) hs hrec hrow hno rs (i + 1) (j + 1) (fun r hr => hp r (List.mem_cons_of_mem _ hr)) (fun m x h => by
        have := hx (m + 1) x (by simp [ixs, hk]; exact h)
        rw [show j + 1 + m = j + (m + 1) by omega]
        exact this)
      rw [ih]
      congr 1
      unfold bring
      rw [List.map_flatMap]
      congr 1
      funext sp
      have hpp := hp ru List.mem_cons_self hk
      have ea : allPos rowsB sp ru.parts = allPos rowsC sp ru.parts := by
        unfold allPos
        have : ∀ q ∈ sp.zip ru.parts, (decide (0 < cell rowsB q.1 q.2)) = decide (0 < cell rowsC q.1 q.2) := fun q hq => by
          rw [hrow q.1 q.2 (hpp _ (List.of_mem_zip hq).2)]
        rw [Bool.eq_iff_iff, List.all_eq_true, List.all_eq_true]
        exact ⟨fun h q hq => by rw [← this q hq]; exact h q hq, fun h q hq => by rw [this q hq]; exact h q hq⟩
      rw [ea]
      split
      · rw [List.map_map]
        have er : ((sp.zip ru.parts).map fun q => recB q.2 q.1) = ((sp.zip ru.parts).map fun q => recC q.2 q.1).map (List.map (T.turn f)) := by
          rw [List.map_map]
          exact List.map_congr_left fun q hq => hrec q.2 (hpp _ (List.of_mem_zip hq).2) q.1
        have ec := choices_map f ((sp.zip ru.parts).map fun q => recC q.2 q.1) [[]]
        unfold choices
        rw [er]
        have ec : (((sp.zip ru.parts).map fun q => recC q.2 q.1).map (List.map (T.turn f))).foldl (fun found row => found.flatMap fun some' => row.map fun one => some' ++ [one]) [[]] = _ := ec
        rw [ec, List.map_map]
        refine List.map_congr_left fun l _ => ?_
        show T.mk i (l.map (T.turn f)) = T.turn f (T.mk j l)
        rw [T.turn_mk, h0]
      · rfl
    | false =>
      rw [List.filter_cons_of_neg (by rw [hk]; decide)]
      show bring recB rowsB sign knots i ru ++ bringA recB rowsB sign knots (i + 1) rs = _
      have ih := bringA_cut (knots := knots) hs hrec hrow hno rs (i + 1) j (fun r hr => hp r (List.mem_cons_of_mem _ hr)) (fun m x h => hx m x (by simp [ixs, hk]; exact h))
      rw [ih]
      have hz : bring recB rowsB sign knots i ru = [] := by
        unfold bring
        apply List.flatMap_eq_nil_iff.mpr
        intro sp hsp
        rw [if_neg]
        rintro ⟨he, ha⟩
        unfold keepR aliveR at hk
        rw [he] at hk
        simp [hs] at hk
        obtain ⟨p, h1, h2⟩ := hk
        have hz := fun c => hno c p (by unfold Has; rw [h2]; decide)
        -- p stands in the zip
        obtain ⟨m, hm, hmp⟩ := List.getElem_of_mem h1
        have hl := parted_len _ _ sp hsp
        have hq : (sp[m]'(by omega), p) ∈ sp.zip ru.parts := by
          have : (sp.zip ru.parts)[m]? = some (sp[m]'(by omega), p) := by
            rw [List.getElem?_eq_getElem (by simp; omega), List.getElem_zip, hmp]
          exact List.mem_of_getElem? this
        unfold allPos at ha
        rw [List.all_eq_true] at ha
        have := ha _ hq
        simp [hz] at this
      rw [hz]
      rfl
theorem treesF_cut {f : Nat → Nat} {come : List Nat} {F a : Fd} {rs : List (Rule φ)} {L most : Nat} (hL : ∀ ru ∈ rs, ru.sign < L) (hF : RunsL rs a F)
    (hf : ∀ i j, i < (rs.filter (keepR (fun k => (at' F k).isSome) come)).length → j < (rs.filter (keepR (fun k => (at' F k).isSome) come)).length → i < j → f i < f j)
    (hx : ∀ m x, (ixs (keepR (fun k => (at' F k).isSome) come) 0 rs)[m]? = some x → f m = x)
    (hp : ∀ ru ∈ rs, keepR (fun k => (at' F k).isSome) come ru = true → ∀ p ∈ ru.parts, p ∈ come) : ∀ (n s k : Nat), s ∈ come →
      treesF rs (countsN rs L most) n s k = (treesF (rs.filter (keepR (fun k => (at' F k).isSome) come)) (countsN (rs.filter (keepR (fun k => (at' F k).isSome) come)) L most) n s k).map (T.turn f)
  | 0, _, _, _ => rfl
  | n + 1, s, k, hs => by
    show (bringA (treesF rs (countsN rs L most) n) (countsN rs L most) s k 0 rs).mergeSort leT = _
    rw [bringA_cut (f := f) (F := F) (come := come) hs (fun p hpc c => treesF_cut hL hF hf hx hp n p c hpc) (fun c p hpc => cell_cut hL hF hp most c p hpc) (fun c p hn => cell_none hL hF most c p hn) rs 0 0 hp (fun m x h => by rw [Nat.zero_add]; exact hx m x h)]
    rw [show treesF (rs.filter (keepR (fun k => (at' F k).isSome) come)) (countsN (rs.filter (keepR (fun k => (at' F k).isSome) come)) L most) (n + 1) s k = (bringA (treesF (rs.filter (keepR (fun k => (at' F k).isSome) come)) (countsN (rs.filter (keepR (fun k => (at' F k).isSome) come)) L most) n) (countsN (rs.filter (keepR (fun k => (at' F k).isSome) come)) L most) s k 0 (rs.filter (keepR (fun k => (at' F k).isSome) come))).mergeSort leT from rfl]
    refine (List.map_mergeSort (r := leT) (s := leT) fun x hx' y hy' => ?_).symm
    unfold leT
    have hb : ∀ t ∈ bringA (treesF (rs.filter (keepR (fun k => (at' F k).isSome) come)) (countsN (rs.filter (keepR (fun k => (at' F k).isSome) come)) L most) n) (countsN (rs.filter (keepR (fun k => (at' F k).isSome) come)) L most) s k 0 (rs.filter (keepR (fun k => (at' F k).isSome) come)), T.Below (rs.filter (keepR (fun k => (at' F k).isSome) come)).length t := fun t ht =>
      treesF_below _ _ (n + 1) s k t (List.mem_mergeSort.mpr ht)
    rw [T.turn_lt hf y x (hb y hy') (hb x hx')]
end
end KM
end

section
set_option maxRecDepth 100000
set_option maxHeartbeats 4000000
namespace KM
section
variable {φ : Type}
/-! ### what the found trees look like; that the loop ends -/
def ar (rs : List (Rule φ)) (r : Nat) : Nat := match rs[r]? with | some ru => ru.parts.length | none => 0
def T.Ar (f : Nat → Nat) : T → Prop
  | .n0 r => f r = 0 | .n1 r a => f r = 1 ∧ a.Ar f | .n2 r a b => f r = 2 ∧ a.Ar f ∧ b.Ar f
theorem ar_mk {f : Nat → Nat} {r : Nat} {l : List T} (h : f r = l.length) (h2 : l.length ≤ 2) (ha : ∀ t ∈ l, t.Ar f) : (T.mk r l).Ar f := by
  match l, h, h2, ha with
  | [], h, _, _ => exact h
  | [a], h, _, ha => exact ⟨h, ha a (by simp)⟩
  | [a, b], h, _, ha => exact ⟨h, ha a (by simp), ha b (by simp)⟩
theorem knots_mk {r : Nat} {l : List T} (h2 : l.length ≤ 2) : (T.mk r l).knots = 1 + (l.map T.knots).sum := by
  match l, h2 with
  | [], _ => rfl
  | [a], _ => simp [T.mk, T.knots]
  | [a, b], _ => simp [T.mk, T.knots]; omega
/-- the first place where they part -/
def Dif (xs ys : List Nat) : Prop := ∃ p x y s s', x < y ∧ xs = p ++ x :: s ∧ ys = p ++ y :: s'
theorem Dif.cons {xs ys : List Nat} (a : Nat) (h : Dif xs ys) : Dif (a :: xs) (a :: ys) := by
  obtain ⟨p, x, y, s, s', h1, rfl, rfl⟩ := h
  exact ⟨a :: p, x, y, s, s', h1, rfl, rfl⟩
theorem Dif.app {xs ys : List Nat} (l : List Nat) (h : Dif xs ys) : Dif (l ++ xs) (l ++ ys) := by
  obtain ⟨p, x, y, s, s', h1, rfl, rfl⟩ := h
  exact ⟨l ++ p, x, y, s, s', h1, by simp, by simp⟩
theorem Dif.tail {xs ys : List Nat} (a b : List Nat) (h : Dif xs ys) : Dif (xs ++ a) (ys ++ b) := by
  obtain ⟨p, x, y, s, s', h1, rfl, rfl⟩ := h
  exact ⟨p, x, y, s ++ a, s' ++ b, h1, by simp, by simp⟩
theorem Dif.head {r s : Nat} {xs ys : List Nat} (h : r < s) : Dif (r :: xs) (s :: ys) := ⟨[], r, s, xs, ys, h, rfl, rfl⟩
theorem lt_dif {f : Nat → Nat} (a : T) : ∀ b : T, a.Ar f → b.Ar f → T.lt a b = true → Dif a.flat b.flat := by
  induction a with
  | n0 r =>
    intro b ha hb h
    cases b with
    | n0 s => simp [T.lt] at h; exact .head h
    | n1 s b =>
      simp only [T.lt] at h
      by_cases e : r = s
      · subst e; have h1 := ha; have h2 := hb.1; simp [T.Ar] at h1; omega
      · simp [e] at h; exact .head h
    | n2 s b c =>
      simp only [T.lt] at h
      by_cases e : r = s
      · subst e; have h1 := ha; have h2 := hb.1; simp [T.Ar] at h1; omega
      · simp [e] at h; exact .head h
  | n1 r a ih =>
    intro b ha hb h
    cases b with
    | n0 s =>
      simp only [T.lt] at h
      by_cases e : r = s
      · simp [e] at h
      · simp [e] at h; exact .head h
    | n1 s b =>
      simp only [T.lt] at h
      by_cases e : r = s
      · subst e
        by_cases e2 : a = b
        · simp [e2] at h
        · simp [e2] at h; exact (ih b ha.2 hb.2 h).cons r
      · simp [e] at h; exact .head h
    | n2 s b c =>
      simp only [T.lt] at h
      by_cases e : r = s
      · subst e; have h1 := ha.1; have h2 := hb.1; omega
      · simp [e] at h; exact .head h
  | n2 r a a' ih ih' =>
    intro b ha hb h
    cases b with
    | n0 s =>
      simp only [T.lt] at h
      by_cases e : r = s
      · simp [e] at h
      · simp [e] at h; exact .head h
    | n1 s b =>
      simp only [T.lt] at h
      by_cases e : r = s
      · subst e; have h1 := ha.1; have h2 := hb.1; omega
      · simp [e] at h; exact .head h
    | n2 s b b' =>
      simp only [T.lt] at h
      by_cases e : r = s
      · subst e
        by_cases e2 : a = b
        · subst e2
          by_cases e3 : a' = b'
          · simp [e3] at h
          · simp [e3] at h; exact ((ih' b' ha.2.2 hb.2.2 h).app a.flat).cons r
        · simp [e2] at h; exact ((ih b ha.2.1 hb.2.1 h).tail a'.flat b'.flat).cons r
      · simp [e] at h; exact .head h
/-- digits as a number -/
def num (xs : List Nat) : Nat := xs.foldl (fun n x => n * 8 + x) 0
theorem num_from (xs : List Nat) (n : Nat) : xs.foldl (fun n x => n * 8 + x) n = n * 8 ^ xs.length + num xs := by
  induction xs generalizing n with
  | nil => simp [num]
  | cons x xs ih =>
    unfold num
    rw [List.foldl_cons, List.foldl_cons, ih, ih (0 * 8 + x), List.length_cons, Nat.pow_succ, Nat.zero_mul, Nat.zero_add, Nat.add_mul, Nat.mul_comm (8 ^ xs.length) 8, ← Nat.mul_assoc]
    omega
theorem num_app (a b : List Nat) : num (a ++ b) = num a * 8 ^ b.length + num b := by
  unfold num
  rw [List.foldl_append, num_from]
  rfl
theorem num_cons (x : Nat) (b : List Nat) : num (x :: b) = x * 8 ^ b.length + num b := by
  have := num_app [x] b
  simpa [num] using this
theorem num_lt (xs : List Nat) (h : ∀ x ∈ xs, x < 8) : num xs < 8 ^ xs.length := by
  induction xs with
  | nil => simp [num]
  | cons x xs ih =>
    have h1 := ih fun y hy => h y (List.mem_cons_of_mem _ hy)
    have h2 := h x List.mem_cons_self
    rw [num_cons, List.length_cons, Nat.pow_succ]
    have : x * 8 ^ xs.length ≤ 7 * 8 ^ xs.length := Nat.mul_le_mul_right _ (by omega)
    omega
theorem dif_num {xs ys : List Nat} (d : Dif xs ys) (hl : xs.length = ys.length) (hx : ∀ x ∈ xs, x < 8) (hy : ∀ y ∈ ys, y < 8) : num xs < num ys := by
  obtain ⟨p, x, y, s, s', h1, rfl, rfl⟩ := d
  have hl : s.length = s'.length := by simpa using hl
  rw [num_app, num_app, num_cons, num_cons, List.length_cons, List.length_cons, hl]
  have h2 := num_lt s fun z hz => hx z (by simp [hz])
  rw [hl] at h2
  have h3 : (x + 1) * 8 ^ s'.length ≤ y * 8 ^ s'.length := Nat.mul_le_mul_right _ h1
  rw [Nat.add_mul] at h3
  omega
def rank : Option (Nat × T) → Nat
  | none => 2 * 8 ^ 15
  | some p => 8 ^ p.1 + num p.2.flat
def cnt (fd : Fd) : Nat := (fd.filter Option.isSome).length
/-- an entry as it should be -/
structure Good (rs : List (Rule φ)) (p : Nat × T) : Prop where
  k : p.1 = p.2.knots
  a : p.2.Ar (ar rs)
  b : T.Below rs.length p.2
structure InvL (rs : List (Rule φ)) (fd : Fd) : Prop where
  good : ∀ s p, at' fd s = some p → Good rs p
  small : ∀ s p, at' fd s = some p → p.1 + 1 ≤ 2 ^ cnt fd
theorem cnt_le (fd : Fd) : cnt fd ≤ fd.length := List.length_filter_le _ _
theorem cnt_set (fd : Fd) (s : Nat) (v : Nat × T) (h : s < fd.length) : cnt (fd.set s (some v)) = cnt fd + (if (at' fd s).isSome then 0 else 1) := by
  unfold cnt at'
  induction fd generalizing s with
  | nil => simp at h
  | cons x fd ih =>
    cases s with
    | zero =>
      cases x <;> simp
    | succ s =>
      have := ih s (by simpa using h)
      rw [List.set_cons_succ, List.filter_cons, List.filter_cons, List.getD_cons_succ]
      split
      · rw [List.length_cons, List.length_cons]; omega
      · omega
theorem init_inv (rs : List (Rule φ)) (L : Nat) : InvL rs (init L) := ⟨fun s p h => (by rw [at_init] at h; cases h), fun s p h => (by rw [at_init] at h; cases h)⟩
theorem told_good {rs : List (Rule φ)} {fd : Fd} (I : InvL rs fd) {r : Nat} {ru : Rule φ} (hr : rs[r]? = some ru) (h2 : ru.parts.length ≤ 2) {bs : List (Nat × T)} (h : allSome (ru.parts.map (at' fd)) = some bs) :
    Good rs (told r bs) ∧ (told r bs).1 + 1 ≤ 2 ^ (cnt fd + 1) := by
  have e := allSome_some h
  have hl : bs.length = ru.parts.length := by
    have := congrArg List.length e
    simpa using this.symm
  have hm : ∀ p ∈ bs, ∃ s, at' fd s = some p := fun p hp => by
    obtain ⟨s, _, hs⟩ := List.mem_map.mp (allSome_mem h hp)
    exact ⟨s, hs⟩
  have hg : ∀ p ∈ bs, Good rs p := fun p hp => by
    obtain ⟨s, hs⟩ := hm p hp
    exact I.good s p hs
  have hs : ∀ p ∈ bs, p.1 + 1 ≤ 2 ^ cnt fd := fun p hp => by
    obtain ⟨s, hs⟩ := hm p hp
    exact I.small s p hs
  refine ⟨⟨?_, ?_, ?_⟩, ?_⟩
  · unfold told
    show 1 + (bs.map (·.1)).sum = (T.mk r (bs.map (·.2))).knots
    rw [knots_mk (by rw [List.length_map]; omega), List.map_map]
    congr 2
    exact List.map_congr_left fun p hp => (hg p hp).k
  · refine ar_mk ?_ (by rw [List.length_map]; omega) fun t ht => ?_
    · unfold ar
      rw [hr, List.length_map, hl]
    · obtain ⟨p, hp, rfl⟩ := List.mem_map.mp ht
      exact (hg p hp).a
  · refine below_mk (List.getElem?_eq_some_iff.mp hr).1 _ fun t ht => ?_
    obtain ⟨p, hp, rfl⟩ := List.mem_map.mp ht
    exact (hg p hp).b
  · unfold told
    show 1 + (bs.map (·.1)).sum + 1 ≤ _
    rw [Nat.pow_succ]
    rw [hl.symm] at h2
    clear hl e hm hg h hr
    match bs, h2, hs with
    | [], _, _ => simp; have := Nat.one_le_two_pow (n := cnt fd); omega
    | [p], _, hs => have := hs p (by simp); simp; omega
    | [p, q], _, hs => have := hs p (by simp); have := hs q (by simp); simp; omega
theorem stepL_inv {rs : List (Rule φ)} {s : Fd × Bool} (I : InvL rs s.1) {r : Nat} {ru : Rule φ} (hr : rs[r]? = some ru) (h2 : ru.parts.length ≤ 2) : InvL rs (stepL r ru s).1 := by
  unfold stepL
  split
  · exact I
  · rename_i bs h
    split
    · rename_i hb
      obtain ⟨g1, g2⟩ := told_good I hr h2 h
      by_cases hl : ru.sign < s.1.length
      · have hc := cnt_set s.1 ru.sign (told r bs) hl
        have mono : 2 ^ cnt s.1 ≤ 2 ^ cnt (s.1.set ru.sign (some (told r bs))) := Nat.pow_le_pow_right (by omega) (by rw [hc]; omega)
        refine ⟨fun k p hk => ?_, fun k p hk => ?_⟩
        · rw [at_set] at hk
          split at hk
          · cases hk; exact g1
          · exact I.good k p hk
        · rw [at_set] at hk
          split at hk
          · cases hk
            cases e : at' s.1 ru.sign with
            | none =>
              rw [hc, e]
              exact g2
            | some q =>
              have h3 := I.small _ q e
              have h4 : (told r bs).1 ≤ q.1 := by
                rw [e] at hb
                unfold better ltP at hb
                simp only at hb
                split at hb
                · omega
                · simp at hb; omega
              show (told r bs).1 + 1 ≤ 2 ^ cnt (s.1.set ru.sign (some (told r bs)))
              omega
          · have := I.small k p hk
            show p.1 + 1 ≤ 2 ^ cnt (s.1.set ru.sign (some (told r bs)))
            omega
      · rw [show s.1.set ru.sign (some (told r bs)) = s.1 from List.set_eq_of_length_le (by omega)]
        exact I
    · exact I
theorem rank_lt {rs : List (Rule φ)} (h8 : rs.length ≤ 8) {o : Option (Nat × T)} {t : Nat × T} (ht : Good rs t) (h15 : t.1 ≤ 15) (ho : ∀ p, o = some p → Good rs p ∧ p.1 ≤ 15) (h : better o t = true) : rank (some t) < rank o := by
  have d : ∀ p, Good rs p → ∀ x ∈ p.2.flat, x < 8 := fun p hp x hx => Nat.lt_of_lt_of_le (hp.b x hx) h8
  have n : ∀ p, Good rs p → num p.2.flat < 8 ^ p.1 := fun p hp => by
    have := num_lt p.2.flat (d p hp)
    rw [T.flat_len, ← hp.k] at this
    exact this
  have n1 := n t ht
  cases o with
  | none =>
    show 8 ^ t.1 + num t.2.flat < 2 * 8 ^ 15
    have : 8 ^ t.1 ≤ 8 ^ 15 := Nat.pow_le_pow_right (by omega) h15
    omega
  | some p =>
    obtain ⟨hp, hp15⟩ := ho p rfl
    have n2 := n p hp
    show 8 ^ t.1 + num t.2.flat < 8 ^ p.1 + num p.2.flat
    unfold better ltP at h
    simp only at h
    split at h
    · rename_i e
      split at h
      · cases h
      · have := dif_num (lt_dif t.2 p.2 ht.a hp.a h) (by rw [T.flat_len, T.flat_len, ← ht.k, ← hp.k, e]) (d t ht) (d p hp)
        rw [e]
        omega
    · have h : t.1 < p.1 := by simpa using h
      have : 8 ^ (t.1 + 1) ≤ 8 ^ p.1 := Nat.pow_le_pow_right (by omega) h
      rw [Nat.pow_succ] at this
      omega
def mu (fd : Fd) : Nat := (fd.map rank).sum
theorem mu_set (fd : Fd) (s : Nat) (v : Option (Nat × T)) (h : s < fd.length) : mu (fd.set s v) + rank (at' fd s) = mu fd + rank v := by
  unfold mu at'
  induction fd generalizing s with
  | nil => simp at h
  | cons x fd ih =>
    cases s with
    | zero => simp; omega
    | succ s =>
      have := ih s (by simpa using h)
      rw [List.set_cons_succ, List.map_cons, List.map_cons, List.sum_cons, List.sum_cons, List.getD_cons_succ]
      omega
theorem InvL.small15 {rs : List (Rule φ)} {fd : Fd} (I : InvL rs fd) (h4 : fd.length ≤ 4) {s : Nat} {p : Nat × T} (h : at' fd s = some p) : p.1 ≤ 15 := by
  have := I.small s p h
  have h1 : 2 ^ cnt fd ≤ 2 ^ 4 := Nat.pow_le_pow_right (by omega) (Nat.le_trans (cnt_le fd) h4)
  omega
theorem stepL_mu {rs : List (Rule φ)} (h8 : rs.length ≤ 8) {s : Fd × Bool} (I : InvL rs s.1) (h4 : s.1.length ≤ 4) {r : Nat} {ru : Rule φ} (hr : rs[r]? = some ru) (h2 : ru.parts.length ≤ 2) (hL : ru.sign < s.1.length) :
    mu (stepL r ru s).1 ≤ mu s.1 ∧ ((stepL r ru s).2 = true → s.2 = true ∨ mu (stepL r ru s).1 < mu s.1) := by
  have I' := stepL_inv I hr h2
  have hl' := stepL_len r ru s
  unfold stepL at *
  split
  · exact ⟨Nat.le_refl _, fun h => .inl h⟩
  · rename_i bs h
    simp only [h] at I' hl'
    by_cases hb : better (at' s.1 ru.sign) (told r bs) = true
    · rw [if_pos hb] at I' hl' ⊢
      have h15 : (told r bs).1 ≤ 15 := I'.small15 (by omega) (s := ru.sign) (by rw [at_set, if_pos ⟨rfl, hL⟩])
      have := mu_set s.1 ru.sign (some (told r bs)) hL
      have := rank_lt h8 (told_good I hr h2 h).1 h15 (fun p hp => ⟨I.good _ p hp, I.small15 h4 hp⟩) hb
      exact ⟨by show mu (s.1.set ru.sign (some (told r bs))) ≤ _; omega, fun _ => .inr (by show mu (s.1.set ru.sign (some (told r bs))) < _; omega)⟩
    · rw [if_neg hb]
      exact ⟨Nat.le_refl _, fun h => .inl h⟩
/-- the rules from i on, as they stand in the book -/
theorem roundL_inv {rs : List (Rule φ)} (h2 : ∀ ru ∈ rs, ru.parts.length ≤ 2) : ∀ (l : List (Rule φ)) (i : Nat) (s : Fd × Bool), (∀ j ru, l[j]? = some ru → rs[i + j]? = some ru) → InvL rs s.1 → InvL rs (roundL i l s).1
  | [], _, _, _, I => I
  | ru :: l, i, s, h, I => by
    have hr : rs[i]? = some ru := by have := h 0 ru (by simp); simpa using this
    refine roundL_inv h2 l (i + 1) _ (fun j r hj => ?_) (stepL_inv I hr (h2 ru (List.mem_of_getElem? hr)))
    have := h (j + 1) r (by simpa using hj)
    rw [show i + 1 + j = i + (j + 1) by omega]; exact this
theorem roundL_mu {rs : List (Rule φ)} (h8 : rs.length ≤ 8) (h2 : ∀ ru ∈ rs, ru.parts.length ≤ 2) : ∀ (l : List (Rule φ)) (i : Nat) (s : Fd × Bool), (∀ j ru, l[j]? = some ru → rs[i + j]? = some ru) → InvL rs s.1 → s.1.length ≤ 4 → (∀ ru ∈ rs, ru.sign < s.1.length) →
    mu (roundL i l s).1 ≤ mu s.1 ∧ ((roundL i l s).2 = true → s.2 = true ∨ mu (roundL i l s).1 < mu s.1)
  | [], _, _, _, _, _, _ => ⟨Nat.le_refl _, fun h => .inl h⟩
  | ru :: l, i, s, h, I, h4, hL => by
    have hr : rs[i]? = some ru := by have := h 0 ru (by simp); simpa using this
    have hm := List.mem_of_getElem? hr
    obtain ⟨a1, a2⟩ := stepL_mu h8 I h4 hr (h2 ru hm) (hL ru hm)
    obtain ⟨b1, b2⟩ := roundL_mu h8 h2 l (i + 1) (stepL i ru s) (fun j r hj => by
      have := h (j + 1) r (by simpa using hj)
      rw [show i + 1 + j = i + (j + 1) by omega]; exact this) (stepL_inv I hr (h2 ru hm)) (by rw [stepL_len]; exact h4) (fun r hr' => by rw [stepL_len]; exact hL r hr')
    refine ⟨Nat.le_trans b1 a1, fun q => ?_⟩
    rcases b2 q with q | q
    · rcases a2 q with q | q
      · exact .inl q
      · exact .inr (Nat.lt_of_le_of_lt b1 q)
    · exact .inr (Nat.lt_of_lt_of_le q a1)
theorem round_inv {rs : List (Rule φ)} (h2 : ∀ ru ∈ rs, ru.parts.length ≤ 2) {s : Fd × Bool} (I : InvL rs s.1) : InvL rs (roundL 0 rs s).1 := roundL_inv h2 rs 0 s (fun j ru h => by rw [Nat.zero_add]; exact h) I
theorem round_mu {rs : List (Rule φ)} (h8 : rs.length ≤ 8) (h2 : ∀ ru ∈ rs, ru.parts.length ≤ 2) {fd : Fd} (I : InvL rs fd) (h4 : fd.length ≤ 4) (hL : ∀ ru ∈ rs, ru.sign < fd.length) (h : (roundL 0 rs (fd, false)).2 = true) : mu (roundL 0 rs (fd, false)).1 < mu fd := by
  rcases (roundL_mu h8 h2 rs 0 (fd, false) (fun j ru h => by rw [Nat.zero_add]; exact h) I h4 hL).2 h with q | q
  · cases q
  · exact q
theorem runsL_ex {rs : List (Rule φ)} (h8 : rs.length ≤ 8) (h2 : ∀ ru ∈ rs, ru.parts.length ≤ 2) : ∀ (n : Nat) (fd : Fd), mu fd ≤ n → InvL rs fd → fd.length ≤ 4 → (∀ ru ∈ rs, ru.sign < fd.length) → ∃ F, RunsL rs fd F
  | n, fd, hn, I, h4, hL => by
    cases e : (roundL 0 rs (fd, false)).2 with
    | false => exact ⟨fd, .stop e⟩
    | true =>
      have hm := round_mu h8 h2 I h4 hL e
      cases n with
      | zero => omega
      | succ n =>
        obtain ⟨F, hF⟩ := runsL_ex h8 h2 n (roundL 0 rs (fd, false)).1 (by omega) (round_inv h2 I) (by rw [roundL_len]; exact h4) (fun ru hr => by rw [roundL_len]; exact hL ru hr)
        exact ⟨F, .go hF⟩
theorem iterL_inv {rs : List (Rule φ)} (h2 : ∀ ru ∈ rs, ru.parts.length ≤ 2) {fd : Fd} (I : InvL rs fd) : ∀ n, InvL rs (iterL rs fd n)
  | 0 => I
  | n + 1 => round_inv h2 (s := (iterL rs fd n, false)) (iterL_inv h2 I n)
theorem RunsL.inv {rs : List (Rule φ)} (h2 : ∀ ru ∈ rs, ru.parts.length ≤ 2) {fd F : Fd} (I : InvL rs fd) (h : RunsL rs fd F) : InvL rs F := by
  obtain ⟨n, h1, _⟩ := h
  rw [← h1]
  exact iterL_inv h2 I n

/-! ### the signs that come: an end -/
structure InvC (L : Nat) (c : List Nat) : Prop where
  nd : c.Nodup
  lt : ∀ k ∈ c, k < L
theorem nodup_le : ∀ (L : Nat) (c : List Nat), c.Nodup → (∀ k ∈ c, k < L) → c.length ≤ L
  | 0, c, _, h => by
    cases c with
    | nil => simp
    | cons x c => exact absurd (h x List.mem_cons_self) (by omega)
  | L + 1, c, hn, h => by
    by_cases hL : L ∈ c
    · have h1 := List.length_erase_of_mem hL
      have h2 := nodup_le L (c.erase L) (hn.erase L) fun k hk => by
        rw [hn.mem_erase_iff] at hk
        have := h k hk.2
        have := hk.1
        omega
      omega
    · have := nodup_le L c hn fun k hk => by
        have := h k hk
        have : k ≠ L := fun e => hL (e ▸ hk)
        omega
      omega
theorem InvC.len {L : Nat} {c : List Nat} (h : InvC L c) : c.length ≤ L := nodup_le L c h.nd h.lt
theorem comeP_inv {L sg p : Nat} {s : List Nat × Bool} (h : InvC L s.1) (hp : p < L) : InvC L (comeP sg s p).1 := by
  unfold comeP
  split
  · rename_i q
    refine ⟨?_, fun k hk => ?_⟩
    · rw [List.nodup_append]
      refine ⟨h.nd, by simp, fun a ha b hb => ?_⟩
      have : b = p := by simpa using hb
      rw [this]
      intro e
      rw [e] at ha
      exact q.2 ha
    · rcases List.mem_append.mp hk with hk | hk
      · exact h.lt k hk
      · have : k = p := by simpa using hk
        omega
  · exact h
theorem comeP_len {sg p : Nat} {s : List Nat × Bool} : s.1.length ≤ (comeP sg s p).1.length ∧ ((comeP sg s p).2 = true → s.2 = true ∨ s.1.length < (comeP sg s p).1.length) := by
  unfold comeP
  split
  · simp
  · exact ⟨Nat.le_refl _, fun h => .inl h⟩
theorem comeF_inv {L sg : Nat} : ∀ (ps : List Nat) (s : List Nat × Bool), (∀ p ∈ ps, p < L) → InvC L s.1 → InvC L (ps.foldl (comeP sg) s).1
  | [], _, _, h => h
  | p :: ps, s, hp, h => comeF_inv ps _ (fun q hq => hp q (List.mem_cons_of_mem _ hq)) (comeP_inv h (hp p List.mem_cons_self))
theorem comeF_len {sg : Nat} : ∀ (ps : List Nat) (s : List Nat × Bool), s.1.length ≤ (ps.foldl (comeP sg) s).1.length ∧ ((ps.foldl (comeP sg) s).2 = true → s.2 = true ∨ s.1.length < (ps.foldl (comeP sg) s).1.length)
  | [], _ => ⟨Nat.le_refl _, fun h => .inl h⟩
  | p :: ps, s => by
    obtain ⟨a1, a2⟩ := comeP_len (sg := sg) (p := p) (s := s)
    obtain ⟨b1, b2⟩ := comeF_len (sg := sg) ps (comeP sg s p)
    rw [List.foldl_cons]
    refine ⟨by omega, fun q => ?_⟩
    rcases b2 q with q | q
    · rcases a2 q with q | q
      · exact .inl q
      · exact .inr (by omega)
    · exact .inr (by omega)
theorem comeA_inv {L : Nat} : ∀ (as : List (Rule φ)) (s : List Nat × Bool), (∀ ru ∈ as, ∀ p ∈ ru.parts, p < L) → InvC L s.1 → InvC L (comeA as s).1
  | [], _, _, h => h
  | ru :: as, s, hp, h => comeA_inv as _ (fun r hr => hp r (List.mem_cons_of_mem _ hr)) (comeF_inv ru.parts s (hp ru List.mem_cons_self) h)
theorem comeA_len : ∀ (as : List (Rule φ)) (s : List Nat × Bool), s.1.length ≤ (comeA as s).1.length ∧ ((comeA as s).2 = true → s.2 = true ∨ s.1.length < (comeA as s).1.length)
  | [], _ => ⟨Nat.le_refl _, fun h => .inl h⟩
  | ru :: as, s => by
    obtain ⟨a1, a2⟩ := comeF_len (sg := ru.sign) ru.parts s
    obtain ⟨b1, b2⟩ := comeA_len as (comeR s ru)
    have e : comeR s ru = ru.parts.foldl (comeP ru.sign) s := rfl
    have e2 : comeA (ru :: as) s = comeA as (comeR s ru) := rfl
    rw [e] at b1 b2
    rw [e2, e]
    refine ⟨by omega, fun q => ?_⟩
    rcases b2 q with q | q
    · rcases a2 q with q | q
      · exact .inl q
      · exact .inr (by omega)
    · exact .inr (by omega)
theorem runsC_ex {as : List (Rule φ)} {L : Nat} (hp : ∀ ru ∈ as, ∀ p ∈ ru.parts, p < L) : ∀ (n : Nat) (c : List Nat), L - c.length ≤ n → InvC L c → ∃ c', RunsC as c c'
  | n, c, hn, I => by
    cases e : (comeA as (c, false)).2 with
    | false => exact ⟨c, .stop e⟩
    | true =>
      have I' := comeA_inv as (c, false) hp I
      have hl := I'.len
      rcases (comeA_len as (c, false)).2 e with q | q
      · cases q
      · have q : c.length < (comeA as (c, false)).1.length := q
        cases n with
        | zero => omega
        | succ n =>
          obtain ⟨c', h⟩ := runsC_ex hp n (comeA as (c, false)).1 (by omega) I'
          exact ⟨c', .go h⟩
theorem iterC_inv {as : List (Rule φ)} {L : Nat} (hp : ∀ ru ∈ as, ∀ p ∈ ru.parts, p < L) {c : List Nat} (I : InvC L c) : ∀ n, InvC L (iterC as c n)
  | 0 => I
  | n + 1 => comeA_inv as (iterC as c n, false) hp (iterC_inv hp I n)
theorem RunsC.inv {as : List (Rule φ)} {L : Nat} (hp : ∀ ru ∈ as, ∀ p ∈ ru.parts, p < L) {c c' : List Nat} (I : InvC L c) (h : RunsC as c c') : InvC L c' := by
  obtain ⟨n, h1, _⟩ := h
  rw [← h1]
  exact iterC_inv hp I n
end
end KM
end

section
set_option maxRecDepth 100000
set_option maxHeartbeats 4000000
namespace KM
section
variable {φ : Type}
/-! ### the cut book, in one statement -/
structure BkOk (rs : List (Rule φ)) (L : Nat) : Prop where
  l1 : 1 ≤ L
  l4 : L ≤ 4
  r8 : rs.length ≤ 8
  p2 : ∀ ru ∈ rs, ru.parts.length ≤ 2
  sg : ∀ ru ∈ rs, ru.sign < L
  pt : ∀ ru ∈ rs, ∀ p ∈ ru.parts, p < L
theorem BkOk.filter {rs : List (Rule φ)} {L : Nat} (b : BkOk rs L) (p : Rule φ → Bool) : BkOk (rs.filter p) L :=
  ⟨b.l1, b.l4, Nat.le_trans (List.length_filter_le _ _) b.r8, fun ru h => b.p2 ru (List.mem_filter.mp h).1, fun ru h => b.sg ru (List.mem_filter.mp h).1, fun ru h => b.pt ru (List.mem_filter.mp h).1⟩
abbrev madeF (F : Fd) (k : Nat) : Bool := (at' F k).isSome
theorem keep_alive {made : Nat → Bool} {come : List Nat} (rs : List (Rule φ)) : (rs.filter (aliveR made)).filter (fun ru => decide (ru.sign ∈ come)) = rs.filter (keepR made come) := by
  rw [List.filter_filter]
  congr 1
  funext ru
  unfold keepR
  rw [Bool.and_comm]
theorem ixs_keep {made : Nat → Bool} {come : List Nat} (g : Nat → Nat) : ∀ (rs : List (Rule φ)) (i : Nat), (∀ j ru, rs[j]? = some ru → g (i + j) = ru.sign) → (ixs (aliveR made) i rs).filter (fun r => decide (g r ∈ come)) = ixs (keepR made come) i rs
  | [], _, _ => rfl
  | ru :: rs, i, h => by
    have h0 : g i = ru.sign := h 0 ru rfl
    have ih := ixs_keep (made := made) (come := come) g rs (i + 1) fun j r hj => by
      have := h (j + 1) r (by simpa using hj)
      rw [show i + 1 + j = i + (j + 1) by omega]; exact this
    have hk : keepR made come ru = (aliveR made ru && decide (ru.sign ∈ come)) := rfl
    rw [ixs, ixs, hk]
    cases ha : aliveR made ru with
    | false =>
      simp only [Bool.false_and, Bool.false_eq_true, if_false]
      exact ih
    | true =>
      simp only [Bool.true_and, if_true, decide_eq_true_eq]
      by_cases hs : ru.sign ∈ come
      · rw [List.filter_cons_of_pos (by rw [h0]; simpa using hs), if_pos hs, ih]
      · rw [List.filter_cons_of_neg (by rw [h0]; simpa using hs), if_neg hs, ih]
structure Cut (rs : List (Rule φ)) (L : Nat) (F F' : Fd) (come come' : List Nat) : Prop where
  ix : ixs (keepR (madeF F') come') 0 (rs.filter (keepR (madeF F) come)) = List.range (ixs (keepR (madeF F) come) 0 rs).length
  same : (rs.filter (keepR (madeF F) come)).filter (keepR (madeF F') come') = rs.filter (keepR (madeF F) come)
  least : (at' F' 0).map (tau fun j => (ixs (keepR (madeF F) come) 0 rs).getD j 0) = at' F 0
  cells : ∀ most c, cell (countsN (rs.filter (keepR (madeF F) come)) L most) c 0 = cell (countsN rs L most) c 0
  trees : ∀ most n k, treesF rs (countsN rs L most) n 0 k = (treesF (rs.filter (keepR (madeF F) come)) (countsN (rs.filter (keepR (madeF F) come)) L most) n 0 k).map (T.turn fun j => (ixs (keepR (madeF F) come) 0 rs).getD j 0)
theorem cut_all {rs : List (Rule φ)} {L : Nat} (b : BkOk rs L) {F F' : Fd} {come come' : List Nat} (hF : RunsL rs (init L) F) (hC : RunsC (rs.filter (aliveR (madeF F))) [0] come)
    (hF' : RunsL (rs.filter (keepR (madeF F) come)) (init L) F') (hC' : RunsC ((rs.filter (keepR (madeF F) come)).filter (aliveR (madeF F'))) [0] come') : Cut rs L F F' come come' := by
  have h0 : 0 ∈ come := hC.sub 0 0 (by simp [iterC])
  -- the parts of a kept rule come
  have hp : ∀ ru ∈ rs, keepR (madeF F) come ru = true → ∀ p ∈ ru.parts, p ∈ come := fun ru hm hk => by
    unfold keepR at hk
    rw [Bool.and_eq_true, decide_eq_true_eq] at hk
    exact hC.closed ru (List.mem_filter.mpr ⟨hm, hk.1⟩) hk.2
  have hsort := ixs_sorted (keepR (madeF F) come) rs 0
  have hlen := ixs_len (keepR (madeF F) come) rs 0
  have hget : ∀ m, m < (rs.filter (keepR (madeF F) come)).length → (ixs (keepR (madeF F) come) 0 rs)[m]? = some ((ixs (keepR (madeF F) come) 0 rs).getD m 0) := fun m hm => by
    rw [List.getD_eq_getElem?_getD, List.getElem?_eq_getElem (by omega)]
    rfl
  have hf : ∀ i j, i < (rs.filter (keepR (madeF F) come)).length → j < (rs.filter (keepR (madeF F) come)).length → i < j → (ixs (keepR (madeF F) come) 0 rs).getD i 0 < (ixs (keepR (madeF F) come) 0 rs).getD j 0 := fun i j hi hj hij => by
    rw [List.getD_eq_getElem?_getD, List.getD_eq_getElem?_getD, List.getElem?_eq_getElem (by omega), List.getElem?_eq_getElem (by omega)]
    exact List.pairwise_iff_getElem.mp hsort i j (by omega) (by omega) hij
  have hx : ∀ m x, (ixs (keepR (madeF F) come) 0 rs)[m]? = some x → (ixs (keepR (madeF F) come) 0 rs).getD m 0 = x := fun m x h => by
    rw [List.getD_eq_getElem?_getD, h]
    rfl
  have S := sim_ends (f := fun j => (ixs (keepR (madeF F) come) 0 rs).getD j 0) (come := come) hf hx hp hF hF'
  -- all rules of the cut book are alive in it
  have hall : ∀ ru ∈ rs.filter (keepR (madeF F) come), aliveR (madeF F') ru = true := fun ru hm => by
    obtain ⟨hm, hk⟩ := List.mem_filter.mp hm
    have hpp := hp ru hm hk
    unfold keepR aliveR at hk
    rw [Bool.and_eq_true, List.all_eq_true] at hk
    unfold aliveR
    rw [List.all_eq_true]
    intro p hpm
    have h1 := S p (hpp p hpm)
    have h2 := hk.1 p hpm
    unfold madeF at h2 ⊢
    rw [h1] at h2
    simpa using h2
  have e1 : (rs.filter (keepR (madeF F) come)).filter (aliveR (madeF F')) = rs.filter (keepR (madeF F) come) := List.filter_eq_self.mpr hall
  rw [e1] at hC'
  have hc := hC.filter
  rw [keep_alive] at hc
  have ec : come' = come := hC'.uniq hc
  subst ec
  have hall2 : ∀ ru ∈ rs.filter (keepR (madeF F) come'), keepR (madeF F') come' ru = true := fun ru hm => by
    have h1 := hall ru hm
    obtain ⟨_, hk⟩ := List.mem_filter.mp hm
    unfold keepR at hk ⊢
    rw [Bool.and_eq_true] at hk ⊢
    exact ⟨h1, hk.2⟩
  refine ⟨?_, List.filter_eq_self.mpr hall2, (S 0 h0).symm, fun most c => cell_cut b.sg hF hp most c 0 h0, fun most n k => treesF_cut b.sg hF hf hx hp n 0 k h0⟩
  rw [ixs_all _ _ _ hall2, hlen, List.range_eq_range']

/-! ### sizes -/
theorem parted_sum : ∀ (m total : Nat), ∀ sp ∈ parted total m, sp.sum = total
  | 0, total, sp, h => by
    unfold parted at h
    split at h
    · have : sp = [] := by simpa using h
      rw [this]; simp; omega
    · cases h
  | m + 1, total, sp, h => by
    unfold parted at h
    obtain ⟨i, hi, h⟩ := List.mem_flatMap.mp h
    obtain ⟨q, hq, rfl⟩ := List.mem_map.mp h
    have hi := List.mem_range.mp hi
    have := parted_sum m _ q hq
    rw [List.sum_cons, this]
    omega
theorem flatMap_len {α β : Type} (f : α → List β) (B : Nat) : ∀ (l : List α), (∀ x ∈ l, (f x).length ≤ B) → (l.flatMap f).length ≤ l.length * B
  | [], _ => by simp
  | x :: l, h => by
    have h1 := flatMap_len f B l fun y hy => h y (List.mem_cons_of_mem _ hy)
    have h2 := h x List.mem_cons_self
    rw [List.flatMap_cons, List.length_append, List.length_cons, Nat.succ_mul]
    omega
theorem parted_many : ∀ (m total : Nat), (parted total m).length ≤ total ^ m
  | 0, total => by
    unfold parted
    split <;> simp
  | m + 1, total => by
    unfold parted
    refine Nat.le_trans (flatMap_len _ (total ^ m) _ fun i hi => ?_) ?_
    · rw [List.length_map]
      exact Nat.le_trans (parted_many m _) (Nat.pow_le_pow_left (by omega) m)
    · rw [List.length_range, Nat.pow_succ, Nat.mul_comm (total ^ m)]
      exact Nat.mul_le_mul_right _ (by omega)
theorem sum_le {B : Nat} : ∀ (l : List Nat), (∀ x ∈ l, x ≤ B) → l.sum ≤ l.length * B
  | [], _ => by simp
  | x :: l, h => by
    have h1 := sum_le l fun y hy => h y (List.mem_cons_of_mem _ hy)
    have h2 := h x List.mem_cons_self
    rw [List.sum_cons, List.length_cons, Nat.succ_mul]
    omega
theorem ways_le {rows : List (List Nat)} : ∀ (sp parts : List Nat) (w : Nat), sp.length = parts.length → (∀ c ∈ sp, ∀ p ∈ parts, cell rows c p ≤ 1024 ^ c) → (sp.zip parts).foldl (fun w q => w * cell rows q.1 q.2) w ≤ w * 1024 ^ sp.sum
  | [], parts, w, _, _ => by simp
  | c :: sp, [], w, hl, _ => by simp at hl
  | c :: sp, p :: parts, w, hl, h => by
    rw [List.zip_cons_cons, List.foldl_cons, List.sum_cons, Nat.pow_add, ← Nat.mul_assoc]
    refine Nat.le_trans (ways_le sp parts _ (by simpa using hl) fun c' hc p' hp => h c' (List.mem_cons_of_mem _ hc) p' (List.mem_cons_of_mem _ hp)) ?_
    exact Nat.mul_le_mul_right _ (Nat.mul_le_mul_left _ (h c List.mem_cons_self p List.mem_cons_self))
theorem cell_bound {rs : List (Rule φ)} {L : Nat} (b : BkOk rs L) : ∀ (k c s : Nat), k ≤ 9 → cell (countsN rs L k) c s ≤ 1024 ^ c := by
  intro k
  induction k with
  | zero =>
    intro c s _
    cases c with
    | zero => rw [cell_zero]; omega
    | succ c => rw [cell_out (by omega)]; exact Nat.zero_le _
  | succ k ih =>
    intro c s hk
    by_cases h1 : c ≤ k
    · rw [cell_succ h1]; exact ih c s (by omega)
    · by_cases h2 : c = k + 1
      · subst h2
        rw [cell_top b.sg]
        unfold val
        have hr : ∀ x ∈ (rs.filter fun ru => decide (ru.sign = s)).map (valR (countsN rs L k) (k + 1)), x ≤ 64 * 1024 ^ k := fun x hx => by
          obtain ⟨ru, hru, rfl⟩ := List.mem_map.mp hx
          have hp2 := b.p2 ru (List.mem_filter.mp hru).1
          unfold valR
          refine Nat.le_trans (sum_le (B := 1024 ^ k) _ fun y hy => ?_) ?_
          · obtain ⟨sp, hsp, rfl⟩ := List.mem_map.mp hy
            have e := parted_sum _ _ sp hsp
            have := ways_le (rows := countsN rs L k) sp ru.parts 1 (parted_len _ _ sp hsp) fun c _ p _ => ih c p (by omega)
            rw [e] at this
            unfold ways
            simpa using this
          · rw [List.length_map]
            refine Nat.mul_le_mul_right _ ?_
            refine Nat.le_trans (parted_many _ _) ?_
            show (k + 1 - 1) ^ ru.parts.length ≤ 64
            have hk8 : k + 1 - 1 ≤ 8 := by omega
            refine Nat.le_trans (Nat.pow_le_pow_left hk8 _) ?_
            exact Nat.le_trans (Nat.pow_le_pow_right (by omega) hp2) (by decide)
        refine Nat.le_trans (sum_le _ hr) ?_
        rw [List.length_map, Nat.pow_succ, Nat.mul_comm (1024 ^ k), ← Nat.mul_assoc]
        refine Nat.mul_le_mul_right _ ?_
        have : (rs.filter fun ru => decide (ru.sign = s)).length ≤ 8 := Nat.le_trans (List.length_filter_le _ _) b.r8
        omega
      · rw [cell_out (by omega)]; exact Nat.zero_le _
/-- the lists are as long as the counts say -/
theorem foldl_lens (rows : List (List T)) (l : List (Nat × Nat)) (rec : Nat → Nat → List T) (cs : List (List Nat)) : ∀ w, (∀ q ∈ l, (rec q.2 q.1).length = cell cs q.1 q.2) →
    (l.map fun q => rec q.2 q.1).foldl (fun w row => w * row.length) w = l.foldl (fun w q => w * cell cs q.1 q.2) w := by
  induction l with
  | nil => intro w _; rfl
  | cons q l ih =>
    intro w h
    rw [List.map_cons, List.foldl_cons, List.foldl_cons, h q List.mem_cons_self]
    exact ih _ fun x hx => h x (List.mem_cons_of_mem _ hx)
theorem not_pos_zero {cs : List (List Nat)} : ∀ (l : List (Nat × Nat)) (w : Nat), (l.all fun q => decide (0 < cell cs q.1 q.2)) = false → l.foldl (fun w q => w * cell cs q.1 q.2) w = 0
  | [], _, h => by simp at h
  | q :: l, w, h => by
    rw [List.foldl_cons]
    by_cases hq : 0 < cell cs q.1 q.2
    · refine not_pos_zero l _ ?_
      simpa [hq] using h
    · rw [show cell cs q.1 q.2 = 0 by omega, Nat.mul_zero]
      exact foldl_zero l
theorem bring_len {rec : Nat → Nat → List T} {cs : List (List Nat)} {sign k i : Nat} {ru : Rule φ} (h : ∀ p c, 1 ≤ c → c ≤ k - 1 → (rec p c).length = cell cs c p) : (bring rec cs sign k i ru).length = if ru.sign = sign then valR cs k ru else 0 := by
  unfold bring valR
  by_cases e : ru.sign = sign
  · rw [if_pos e]
    have : ∀ l : List (List Nat), (∀ sp ∈ l, sp ∈ parted (k - 1) ru.parts.length) → (l.flatMap fun sp => if ru.sign = sign ∧ allPos cs sp ru.parts = true then (choices ((sp.zip ru.parts).map fun q => rec q.2 q.1)).map (T.mk i) else []).length = (l.map fun sp => ways cs sp ru.parts).sum := by
      intro l
      induction l with
      | nil => intro _; rfl
      | cons sp l ih =>
        intro hl
        rw [List.flatMap_cons, List.length_append, List.map_cons, List.sum_cons, ih fun q hq => hl q (List.mem_cons_of_mem _ hq)]
        congr 1
        have hsp := hl sp List.mem_cons_self
        by_cases ha : allPos cs sp ru.parts = true
        · rw [if_pos ⟨e, ha⟩, List.length_map]
          unfold choices
          rw [choices_len]
          show _ = ways cs sp ru.parts
          unfold ways
          have := foldl_lens [] (sp.zip ru.parts) rec cs 1 fun q hq => by
            have hz := List.of_mem_zip hq
            have := parted_le _ _ sp hsp q.1 hz.1
            exact h q.2 q.1 this.1 this.2
          exact this
        · rw [if_neg fun q => ha q.2]
          unfold ways
          rw [not_pos_zero _ _ (by simpa [allPos] using ha)]
          rfl
    exact this _ fun sp h => h
  · rw [if_neg e]
    have : ((parted (k - 1) ru.parts.length).flatMap fun sp => if ru.sign = sign ∧ allPos cs sp ru.parts = true then (choices ((sp.zip ru.parts).map fun q => rec q.2 q.1)).map (T.mk i) else []) = [] := by
      apply List.flatMap_eq_nil_iff.mpr
      intro sp _
      rw [if_neg fun q => e q.1]
    rw [this]
    rfl
theorem bringA_len {rec : Nat → Nat → List T} {cs : List (List Nat)} {sign k : Nat} (h : ∀ p c, 1 ≤ c → c ≤ k - 1 → (rec p c).length = cell cs c p) : ∀ (rs : List (Rule φ)) (i : Nat), (bringA rec cs sign k i rs).length = val rs cs k sign
  | [], _ => rfl
  | ru :: rs, i => by
    show (bring rec cs sign k i ru ++ bringA rec cs sign k (i + 1) rs).length = _
    rw [List.length_append, bringA_len h rs (i + 1), bring_len h]
    unfold val
    by_cases e : ru.sign = sign
    · rw [if_pos e, List.filter_cons_of_pos (by simpa using e), List.map_cons, List.sum_cons]
    · rw [if_neg e, List.filter_cons_of_neg (by simpa using e), Nat.zero_add]
theorem val_cells {rs : List (Rule φ)} {L most k s : Nat} (hL : ∀ ru ∈ rs, ru.sign < L) (h1 : 1 ≤ k) (h2 : k ≤ most) : val rs (countsN rs L most) k s = cell (countsN rs L most) k s := by
  obtain ⟨j, rfl⟩ : ∃ j, k = j + 1 := ⟨k - 1, by omega⟩
  rw [cell_le h2, cell_top hL]
  unfold val
  congr 1
  refine List.map_congr_left fun ru _ => ?_
  unfold valR
  congr 1
  refine List.map_congr_left fun sp hsp => ?_
  unfold ways
  refine ways_eq sp ru.parts 1 fun c hc p _ => ?_
  have := parted_le _ _ sp hsp c hc
  rw [cell_le (show c ≤ most by omega), cell_le (k := j) (show c ≤ j by omega)]
theorem treesF_len {rs : List (Rule φ)} {L most : Nat} (hL : ∀ ru ∈ rs, ru.sign < L) : ∀ (n s k : Nat), 1 ≤ k → k ≤ n → k ≤ most → (treesF rs (countsN rs L most) n s k).length = cell (countsN rs L most) k s
  | 0, _, _, h1, h2, _ => by omega
  | n + 1, s, k, h1, h2, h3 => by
    show ((bringA (treesF rs (countsN rs L most) n) (countsN rs L most) s k 0 rs).mergeSort leT).length = _
    rw [List.length_mergeSort, bringA_len (fun p c hc1 hc2 => treesF_len hL n p c hc1 (by omega) (by omega)), val_cells hL h1 h3]
/-- a factor is no more than a product of such -/
theorem factor_le {cs : List (List Nat)} : ∀ (l : List (Nat × Nat)) (w : Nat), 0 < w → (l.all fun q => decide (0 < cell cs q.1 q.2)) = true → w ≤ l.foldl (fun w q => w * cell cs q.1 q.2) w ∧ ∀ q ∈ l, cell cs q.1 q.2 ≤ l.foldl (fun w q => w * cell cs q.1 q.2) w
  | [], w, _, _ => ⟨Nat.le_refl _, fun q h => by cases h⟩
  | x :: l, w, hw, h => by
    rw [List.all_cons, Bool.and_eq_true, decide_eq_true_eq] at h
    have hx := Nat.mul_le_mul_left w h.1
    have hy := Nat.mul_le_mul_right (cell cs x.1 x.2) hw
    obtain ⟨h1, h2⟩ := factor_le l (w * cell cs x.1 x.2) (by omega) h.2
    rw [List.foldl_cons]
    refine ⟨by omega, fun q hq => ?_⟩
    rcases List.mem_cons.mp hq with e | hq
    · subst e; omega
    · exact h2 q hq
theorem le_sum {l : List Nat} {x : Nat} (h : x ∈ l) : x ≤ l.sum := by
  induction l with
  | nil => cases h
  | cons y l ih =>
    rw [List.sum_cons]
    rcases List.mem_cons.mp h with e | h
    · omega
    · have := ih h; omega
/-- where a rule brings trees, its parts' lists are no longer than the whole -/
theorem part_le {rs : List (Rule φ)} {L most k s : Nat} (hL : ∀ ru ∈ rs, ru.sign < L) (h1 : 1 ≤ k) (h2 : k ≤ most) {ru : Rule φ} (hm : ru ∈ rs) (hs : ru.sign = s) {sp : List Nat} (hsp : sp ∈ parted (k - 1) ru.parts.length)
    (ha : allPos (countsN rs L most) sp ru.parts = true) : ways (countsN rs L most) sp ru.parts ≤ cell (countsN rs L most) k s ∧ ∀ q ∈ sp.zip ru.parts, cell (countsN rs L most) q.1 q.2 ≤ cell (countsN rs L most) k s := by
  have h3 : ways (countsN rs L most) sp ru.parts ≤ cell (countsN rs L most) k s := by
    rw [← val_cells hL h1 h2]
    unfold val
    refine Nat.le_trans ?_ (le_sum (List.mem_map.mpr ⟨ru, List.mem_filter.mpr ⟨hm, by simpa using hs⟩, rfl⟩))
    unfold valR
    exact le_sum (List.mem_map.mpr ⟨sp, hsp, rfl⟩)
  refine ⟨h3, fun q hq => Nat.le_trans ?_ h3⟩
  exact (factor_le (sp.zip ru.parts) 1 (by omega) ha).2 q hq
end
end KM
end

section
set_option maxRecDepth 100000
set_option maxHeartbeats 4000000
/-! A layer of data over the hand layer: worlds, data, readings that evaluate to data. -/
namespace U
open PySem PySem.Spec PyProof.Rows L2

/-! ### data in a heap -/
mutual
inductive Da (G : Hp) : V → PyData → Prop
  | non : Da G .non .none
  | bl (b : Bool) : Da G (.bl b) (.bool b)
  | int (i : Int) : Da G (.int i) (.int i)
  | str (x : Str) : Da G (.str x) (.str x)
  | lst {a : Addr} {xs : List V} {ds : List PyData} : G a = some (.lst xs) → DaL G xs ds → Da G (.ref a) (.list ds)
  | tup {a : Addr} {xs : List V} {ds : List PyData} : G a = some (.tup xs) → DaL G xs ds → Da G (.ref a) (.tuple ds)
inductive DaL (G : Hp) : List V → List PyData → Prop
  | nil : DaL G [] []
  | cons {v : V} {vs : List V} {d : PyData} {ds : List PyData} : Da G v d → DaL G vs ds → DaL G (v :: vs) (d :: ds)
end
def Ext (G G' : Hp) : Prop := ∀ a o, G a = some o → G' a = some o
theorem Ext.refl (G : Hp) : Ext G G := fun _ _ h => h
theorem Ext.trans {G G1 G2 : Hp} (a : Ext G G1) (b : Ext G1 G2) : Ext G G2 := fun x o h => b x o (a x o h)
mutual
theorem Da.mono {G G' : Hp} (e : Ext G G') : ∀ (d : PyData) (v : V), Da G v d → Da G' v d
  | .none, _, h => by cases h; exact .non
  | .bool b, _, h => by cases h; exact .bl b
  | .int i, _, h => by cases h; exact .int i
  | .str x, _, h => by cases h; exact .str x
  | .list ds, _, h => by
    cases h with
    | lst h1 h2 => exact .lst (e _ _ h1) (DaL.mono e ds _ h2)
  | .tuple ds, _, h => by
    cases h with
    | tup h1 h2 => exact .tup (e _ _ h1) (DaL.mono e ds _ h2)
  | .dict _, _, h => by cases h
theorem DaL.mono {G G' : Hp} (e : Ext G G') : ∀ (ds : List PyData) (vs : List V), DaL G vs ds → DaL G' vs ds
  | [], _, h => by cases h; exact .nil
  | d :: ds, _, h => by
    cases h with
    | cons h1 h2 => exact .cons (Da.mono e d _ h1) (DaL.mono e ds _ h2)
end
mutual
theorem Da.dp {K : PySem.W.Frag} {G : Hp} : ∀ (d : PyData) (v : V), Da G v d → Dp K G v d
  | .none, _, h => by cases h; exact .non
  | .bool b, _, h => by cases h; exact .bl b
  | .int i, _, h => by cases h; exact .int i
  | .str x, _, h => by cases h; exact .str x
  | .list ds, _, h => by
    cases h with
    | lst h1 h2 => exact .lst (SqL.of h1) (DaL.dp ds _ h2)
  | .tuple ds, _, h => by
    cases h with
    | tup h1 h2 => exact .tup (SqT.of h1) (DaL.dp ds _ h2)
  | .dict _, _, h => by cases h
theorem DaL.dp {K : PySem.W.Frag} {G : Hp} : ∀ (ds : List PyData) (vs : List V), DaL G vs ds → DpAll K G vs ds
  | [], _, h => by cases h; exact .nil
  | d :: ds, _, h => by
    cases h with
    | cons h1 h2 => exact .cons (Da.dp d _ h1) (DaL.dp ds _ h2)
end
theorem DaL.len {G : Hp} : ∀ {vs : List V} {ds : List PyData}, DaL G vs ds → vs.length = ds.length
  | _, _, .nil => rfl
  | _, _, .cons _ h => by rw [List.length_cons, List.length_cons, DaL.len h]
theorem DaL.get {G : Hp} : ∀ {vs : List V} {ds : List PyData} {i : Nat} {d : PyData}, DaL G vs ds → ds[i]? = some d → ∃ v, vs[i]? = some v ∧ Da G v d
  | _, _, i, d, .nil, h => by simp at h
  | _, _, 0, d, .cons h1 _, h => by simp at h; subst h; exact ⟨_, rfl, h1⟩
  | _, _, i + 1, d, .cons _ h2, h => by
    obtain ⟨v, e, q⟩ := DaL.get (i := i) (d := d) h2 (by simpa using h)
    exact ⟨v, by simpa using e, q⟩
theorem DaL.getV {G : Hp} : ∀ {vs : List V} {ds : List PyData} {i : Nat} {v : V}, DaL G vs ds → vs[i]? = some v → ∃ d, ds[i]? = some d ∧ Da G v d
  | _, _, i, d, .nil, h => by simp at h
  | _, _, 0, d, .cons h1 _, h => by simp at h; subst h; exact ⟨_, rfl, h1⟩
  | _, _, i + 1, d, .cons _ h2, h => by
    obtain ⟨v, e, q⟩ := DaL.getV (i := i) (v := d) h2 (by simpa using h)
    exact ⟨v, by simpa using e, q⟩
theorem DaL.app {G : Hp} : ∀ {vs ws : List V} {ds es : List PyData}, DaL G vs ds → DaL G ws es → DaL G (vs ++ ws) (ds ++ es)
  | _, _, _, _, .nil, h => h
  | _, _, _, _, .cons h1 h2, h => .cons h1 (DaL.app h2 h)
theorem DaL.one {G : Hp} {v : V} {d : PyData} (h : Da G v d) : DaL G [v] [d] := .cons h .nil
theorem DaL.set {G : Hp} {v : V} {d : PyData} (h : Da G v d) : ∀ {vs : List V} {ds : List PyData} (i : Nat), DaL G vs ds → DaL G (vs.set i v) (ds.set i d)
  | _, _, _, .nil => .nil
  | _, _, 0, .cons _ h2 => .cons h h2
  | _, _, i + 1, .cons h1 h2 => .cons h1 (DaL.set h i h2)
theorem DaL.drop {G : Hp} : ∀ {vs : List V} {ds : List PyData} (n : Nat), DaL G vs ds → DaL G (vs.drop n) (ds.drop n)
  | _, _, 0, h => h
  | _, _, n + 1, .nil => .nil
  | _, _, n + 1, .cons _ h => DaL.drop n h
theorem DaL.take {G : Hp} : ∀ {vs : List V} {ds : List PyData} (n : Nat), DaL G vs ds → DaL G (vs.take n) (ds.take n)
  | _, _, 0, h => .nil
  | _, _, n + 1, .nil => .nil
  | _, _, n + 1, .cons h1 h => .cons h1 (DaL.take n h)
theorem DaL.ints {G : Hp} : ∀ {vs : List V} {ns : List Int}, DaL G vs (ns.map .int) → vs = ns.map V.int
  | _, [], h => by cases h; rfl
  | _, n :: ns, h => by
    cases h with
    | cons h1 h2 => cases h1; rw [DaL.ints h2]; rfl
theorem DaL.bls {G : Hp} : ∀ {vs : List V} {ns : List Bool}, DaL G vs (ns.map .bool) → vs = ns.map V.bl
  | _, [], h => by cases h; rfl
  | _, n :: ns, h => by
    cases h with
    | cons h1 h2 => cases h1; rw [DaL.bls h2]; rfl
theorem Da.intV {G : Hp} {v : V} {i : Int} (h : Da G v (.int i)) : v = .int i := by cases h; rfl
theorem Da.blV {G : Hp} {v : V} {i : Bool} (h : Da G v (.bool i)) : v = .bl i := by cases h; rfl
theorem Da.strV {G : Hp} {v : V} {i : Str} (h : Da G v (.str i)) : v = .str i := by cases h; rfl
theorem Da.lstV {G : Hp} {v : V} {ds : List PyData} (h : Da G v (.list ds)) : ∃ a xs, v = .ref a ∧ G a = some (.lst xs) ∧ DaL G xs ds := by
  cases h with
  | lst h1 h2 => exact ⟨_, _, rfl, h1, h2⟩
theorem Da.tupV {G : Hp} {v : V} {ds : List PyData} (h : Da G v (.tuple ds)) : ∃ a xs, v = .ref a ∧ G a = some (.tup xs) ∧ DaL G xs ds := by
  cases h with
  | tup h1 h2 => exact ⟨_, _, rfl, h1, h2⟩
def isN : PyData → Bool | .none => true | _ => false
theorem Da.isN {G : Hp} {v : V} {d : PyData} (h : Da G v d) : decide (v = .non) = U.isN d := by
  cases h <;> rfl

/-! ### worlds -/
/-- the heap H, and of it G: what never changes again and of which data are made -/
structure Wo where
  G : Hp
  H : Hp
  ok : Ext G H
theorem Wo.out {w : Wo} {p : Addr} (h : w.H p = none) : w.G p = none := by
  cases e : w.G p with
  | none => rfl
  | some o => rw [w.ok p o e] at h; cases h
theorem ext_upd {G H : Hp} {p : Addr} {o : HO} (e : Ext G H) : Ext (upd G p o) (upd H p o) := fun a u h => by
  by_cases q : a = p
  · subst q; rw [upd_same] at h ⊢; exact h
  · rw [upd_ne q] at h ⊢; exact e a u h
theorem ext_put {G H : Hp} {p : Addr} {o : HO} (e : Ext G H) (hG : G p = none) : Ext G (upd H p o) := fun a u h => by
  rw [upd_ne (ne_of_none h hG)]
  exact e a u h
theorem ext_frz {G H : Hp} {p : Addr} {o : HO} (e : Ext G H) (hH : H p = some o) : Ext (upd G p o) H := fun a u h => by
  by_cases q : a = p
  · subst q; rw [upd_same] at h; rw [hH]; exact h
  · rw [upd_ne q] at h; exact e a u h
theorem ext_new {G : Hp} {p : Addr} {o : HO} (hG : G p = none) : Ext G (upd G p o) := fun a u h => by
  rw [upd_ne (ne_of_none h hG)]
  exact h
/-- a new object, data from now on -/
def Wo.new (w : Wo) (p : Addr) (o : HO) : Wo := ⟨upd w.G p o, upd w.H p o, ext_upd w.ok⟩
/-- an object outside of G put (new, or changed) -/
def Wo.put (w : Wo) (p : Addr) (o : HO) (h : w.G p = none) : Wo := ⟨w.G, upd w.H p o, ext_put w.ok h⟩
/-- an object outside of G is data from now on -/
def Wo.frz (w : Wo) (p : Addr) (o : HO) (h : w.H p = some o) : Wo := ⟨upd w.G p o, w.H, ext_frz w.ok h⟩
/-- a pile of the law's: a list of one number, 0 or more -/
def PileOk (a : Addr) (w : Wo) : Prop := w.G a = none ∧ ∃ n : Int, 0 ≤ n ∧ w.H a = some (.lst [.int n])
/-- what a piece of code leaves: only the pile at c may be changed -/
structure R (c : Option Addr) (w w' : Wo) : Prop where
  g : Ext w.G w'.G
  h : ∀ a o, c ≠ some a → w.H a = some o → w'.H a = some o
  n : ∀ a, w.H a ≠ none → w'.H a ≠ none
  f : ∀ a, w.G a = none → w.H a ≠ none → w'.G a = none
  p : ∀ a, c = some a → PileOk a w → PileOk a w'
theorem R.refl (c : Option Addr) (w : Wo) : R c w w := ⟨Ext.refl _, fun _ _ _ h => h, fun _ h => h, fun _ h _ => h, fun _ _ h => h⟩
theorem R.trans {c : Option Addr} {w w1 w2 : Wo} (a : R c w w1) (b : R c w1 w2) : R c w w2 :=
  ⟨a.g.trans b.g, fun x o hc h => b.h x o hc (a.h x o hc h), fun x h => b.n x (a.n x h), fun x h1 h2 => b.f x (a.f x h1 h2) (a.n x h2), fun x hc h => b.p x hc (a.p x hc h)⟩
theorem R.weak {c : Option Addr} {w w' : Wo} (a : R none w w') : R c w w' :=
  ⟨a.g, fun x o _ h => a.h x o (by simp) h, a.n, a.f, fun x _ ⟨h1, n, h2, h3⟩ => ⟨a.f x h1 (by rw [h3]; simp), n, h2, a.h x _ (by simp) h3⟩⟩
theorem R.new {c : Option Addr} {w : Wo} {p : Addr} (o : HO) (hp : w.H p = none) : R c w (w.new p o) := R.weak
  ⟨ext_new (w.out hp), fun a u _ h => ext_new hp a u h, fun a h => by
      show upd w.H p o a ≠ none
      rw [upd_ne (fun e => h (by rw [e]; exact hp))]; exact h,
    fun a h1 h2 => by
      show upd w.G p o a = none
      rw [upd_ne (fun e => h2 (by rw [e]; exact hp))]; exact h1, fun _ h => by cases h⟩
/-- an object that was not there at w is put -/
theorem R.put {c : Option Addr} {w w1 : Wo} {p : Addr} {o : HO} (r : R c w w1) (hp : w.H p = none) (hG : w1.G p = none) : R c w (w1.put p o hG) :=
  ⟨r.g, fun a u hc h => by
      show upd w1.H p o a = some u
      rw [upd_ne (ne_of_none h hp)]; exact r.h a u hc h,
    fun a h => by
      show upd w1.H p o a ≠ none
      rw [upd_ne (fun e => h (by rw [e]; exact hp))]; exact r.n a h,
    r.f, fun a hc q => by
      obtain ⟨h1, n, h2, h3⟩ := r.p a hc q
      obtain ⟨_, _, _, h4⟩ := q
      refine ⟨h1, n, h2, ?_⟩
      show upd w1.H p o a = _
      rw [upd_ne (ne_of_none h4 hp)]; exact h3⟩
theorem R.frz {c : Option Addr} {w w1 : Wo} {p : Addr} {o : HO} (r : R c w w1) (hp : w.H p = none) (hH : w1.H p = some o) (hG : w1.G p = none) : R c w (w1.frz p o hH) :=
  ⟨r.g.trans (ext_new hG), r.h, r.n, fun a h1 h2 => by
      show upd w1.G p o a = none
      rw [upd_ne (fun e => h2 (by rw [e]; exact hp))]; exact r.f a h1 h2,
    fun a hc q => by
      obtain ⟨h1, n, h2, h3⟩ := r.p a hc q
      obtain ⟨_, _, _, h4⟩ := q
      refine ⟨?_, n, h2, h3⟩
      show upd w1.G p o a = none
      rw [upd_ne (ne_of_none h4 hp)]; exact h1⟩
theorem R.free {c : Option Addr} {w w1 : Wo} (r : R c w w1) {p : Addr} (h : w1.H p = none) : w.H p = none := by
  cases e : w.H p with
  | none => rfl
  | some o => exact absurd h (r.n p (by rw [e]; simp))
theorem da_mono {G G' : Hp} {v : V} {d : PyData} (e : Ext G G') (h : Da G v d) : Da G' v d := Da.mono e d v h
theorem dal_mono {G G' : Hp} {v : List V} {d : List PyData} (e : Ext G G') (h : DaL G v d) : DaL G' v d := DaL.mono e d v h

/-! ### what stands in the slots -/
/-- data | a list of one's own at a, changed still | a value | nothing known -/
inductive De where
  | dat (d : PyData) | ml (a : Addr) (ds : List PyData) | md (a : Addr) (ks : List Nat) | raw (v : V) | no
/-- a list at a, outside of the data, of these data -/
def ML (w : Wo) (a : Addr) (ds : List PyData) : Prop := w.G a = none ∧ ∃ xs, w.H a = some (.lst xs) ∧ DaL w.G xs ds
/-- a dict at a, outside of the data: these keys, each with True -/
def MD (w : Wo) (a : Addr) (ks : List Nat) : Prop := w.G a = none ∧ w.H a = some (.dK (ks.map fun (k : Nat) => ((.inl (k : Int) : Key), V.bl true)))
def De.ok (c : Option Addr) (w : Wo) (x : Option V) : De → Prop
  | .dat d => ∃ v, x = some v ∧ Da w.G v d
  | .ml a ds => x = some (.ref a) ∧ c ≠ some a ∧ ML w a ds
  | .md a ks => x = some (.ref a) ∧ c ≠ some a ∧ MD w a ks
  | .raw v => x = some v
  | .no => True
theorem ML.mono {c : Option Addr} {w w' : Wo} (r : R c w w') {a : Addr} {ds : List PyData} (hc : c ≠ some a) (h : ML w a ds) : ML w' a ds := by
  obtain ⟨h1, xs, h2, h3⟩ := h
  exact ⟨r.f a h1 (by rw [h2]; simp), xs, r.h a _ hc h2, dal_mono r.g h3⟩
theorem MD.mono {c : Option Addr} {w w' : Wo} (r : R c w w') {a : Addr} {ks : List Nat} (hc : c ≠ some a) (h : MD w a ks) : MD w' a ks := ⟨r.f a h.1 (by rw [h.2]; simp), r.h a _ hc h.2⟩
theorem De.mono {c : Option Addr} {w w' : Wo} (r : R c w w') {x : Option V} {e : De} (h : e.ok c w x) : e.ok c w' x := by
  cases e with
  | dat d => obtain ⟨v, h1, h2⟩ := h; exact ⟨v, h1, da_mono r.g h2⟩
  | ml a ds => obtain ⟨h1, h2, h3⟩ := h; exact ⟨h1, h2, h3.mono r h2⟩
  | md a ks => obtain ⟨h1, h2, h3⟩ := h; exact ⟨h1, h2, h3.mono r h2⟩
  | raw v => exact h
  | no => exact h
/-- the slots, place by place -/
inductive Sl (c : Option Addr) (w : Wo) : L2.St → List De → Prop
  | nil : (∀ a, c = some a → w.H a ≠ none) → Sl c w [] []
  | cons {x : Option V} {σ : L2.St} {e : De} {Γ : List De} : e.ok c w x → Sl c w σ Γ → Sl c w (x :: σ) (e :: Γ)
theorem Sl.mono {c : Option Addr} {w w' : Wo} (r : R c w w') : ∀ {σ : L2.St} {Γ : List De}, Sl c w σ Γ → Sl c w' σ Γ
  | _, _, .nil h => .nil fun a e => r.n a (h a e)
  | _, _, .cons h1 h2 => .cons (De.mono r h1) (Sl.mono r h2)
theorem Sl.cok {c : Option Addr} {w : Wo} : ∀ {σ : L2.St} {Γ : List De}, Sl c w σ Γ → ∀ a, c = some a → w.H a ≠ none
  | _, _, .nil h => h
  | _, _, .cons _ h => Sl.cok h
theorem Sl.get {c : Option Addr} {w : Wo} : ∀ {σ : L2.St} {Γ : List De} {i : Nat} {e : De}, Sl c w σ Γ → Γ[i]? = some e → ∃ x, σ[i]? = some x ∧ e.ok c w x
  | _, _, i, e, .nil _, h => by simp at h
  | _, _, 0, e, .cons h1 _, h => by simp at h; subst h; exact ⟨_, rfl, h1⟩
  | _, _, i + 1, e, .cons _ h2, h => by
    obtain ⟨x, q1, q2⟩ := Sl.get (i := i) (e := e) h2 (by simpa using h)
    exact ⟨x, by simpa using q1, q2⟩
theorem Sl.set {c : Option Addr} {w : Wo} {x : Option V} {e : De} (h : e.ok c w x) : ∀ {σ : L2.St} {Γ : List De} (i : Nat), Sl c w σ Γ → Sl c w (σ.set i x) (Γ.set i e)
  | _, _, _, .nil h => .nil h
  | _, _, 0, .cons _ h2 => .cons h h2
  | _, _, i + 1, .cons h1 h2 => .cons h1 (Sl.set h i h2)
def wipeG (Γ : List De) : List Nat → List De
  | [] => Γ
  | v :: vs => (wipeG Γ vs).set v .no
theorem Sl.wipe {c : Option Addr} {w : Wo} {σ : L2.St} {Γ : List De} (h : Sl c w σ Γ) : ∀ vs : List Nat, Sl c w (wipe σ vs) (wipeG Γ vs)
  | [] => h
  | v :: vs => Sl.set (x := none) (e := .no) trivial v (Sl.wipe h vs)
theorem Sl.len {c : Option Addr} {w : Wo} : ∀ {σ : L2.St} {Γ : List De}, Sl c w σ Γ → σ.length = Γ.length
  | _, _, .nil _ => rfl
  | _, _, .cons _ h => by rw [List.length_cons, List.length_cons, Sl.len h]

/-! ### readings that evaluate -/
def Ev (c : Option Addr) (te : TE) (Γ : List De) (w : Wo) (P : V → Wo → Prop) : Prop := ∀ w1 σ, R c w w1 → Sl c w1 σ Γ → ∀ Q : VK, (∀ v w2, R c w1 w2 → P v w2 → Q v w2.H) → te σ w1.H Q
/-- data that P lets by -/
abbrev D (P : PyData → Prop) : V → Wo → Prop := fun v w => ∃ d, P d ∧ Da w.G v d
abbrev EvD (c : Option Addr) (te : TE) (Γ : List De) (w : Wo) (P : PyData → Prop) : Prop := Ev c te Γ w (D P)
abbrev EvE (c : Option Addr) (te : TE) (Γ : List De) (w : Wo) (d : PyData) : Prop := EvD c te Γ w (fun e => e = d)
def EvA (c : Option Addr) (ta : TA) (Γ : List De) (w : Wo) (P : List V → Wo → Prop) : Prop := ∀ w1 σ, R c w w1 → Sl c w1 σ Γ → ∀ Q : List V → Hp → Prop, (∀ vs w2, R c w1 w2 → P vs w2 → Q vs w2.H) → ta σ w1.H Q
abbrev DL (P : List PyData → Prop) : List V → Wo → Prop := fun vs w => ∃ ds, P ds ∧ DaL w.G vs ds
def EvT (c : Option Addr) (tt : TT) (Γ : List De) (w : Wo) (P : Bool → Prop) : Prop := ∀ w1 σ, R c w w1 → Sl c w1 σ Γ → ∀ Q : Bool → Hp → Prop, (∀ b w2, R c w1 w2 → P b → Q b w2.H) → tt σ w1.H Q
/-- a new list of data -/
def EvN (c : Option Addr) (te : TE) (Γ : List De) (w : Wo) (P : List PyData → Prop) : Prop := ∀ w1 σ, R c w w1 → Sl c w1 σ Γ → ∀ Q : VK, (∀ p ds w2, R c w1 w2 → w1.H p = none → P ds → ML w2 p ds → Q (.ref p) w2.H) → te σ w1.H Q
section
variable {c : Option Addr} {Γ : List De} {w w' : Wo} {te ta tb : TE} {tt tu : TT} {tr : TA} {P P1 P2 : V → Wo → Prop} {D1 D2 D3 : PyData → Prop}
theorem Ev.at_ (h : Ev c te Γ w P) (r : R c w w') : Ev c te Γ w' P := fun w1 σ r1 s Q q => h w1 σ (r.trans r1) s Q q
theorem EvA.at_ {P : List V → Wo → Prop} (h : EvA c tr Γ w P) (r : R c w w') : EvA c tr Γ w' P := fun w1 σ r1 s Q q => h w1 σ (r.trans r1) s Q q
theorem EvT.at_ {P : Bool → Prop} (h : EvT c tt Γ w P) (r : R c w w') : EvT c tt Γ w' P := fun w1 σ r1 s Q q => h w1 σ (r.trans r1) s Q q
theorem EvN.at_ {P : List PyData → Prop} (h : EvN c te Γ w P) (r : R c w w') : EvN c te Γ w' P := fun w1 σ r1 s Q q => h w1 σ (r.trans r1) s Q q
theorem Ev.imp (h : Ev c te Γ w P1) (k : ∀ v w', R c w w' → P1 v w' → P v w') : Ev c te Γ w P := fun w1 σ r s Q q => h w1 σ r s Q fun v w2 r2 p => q v w2 r2 (k v w2 (r.trans r2) p)
theorem EvD.imp (h : EvD c te Γ w D1) (k : ∀ d, D1 d → D2 d) : EvD c te Γ w D2 := Ev.imp h fun v w' _ ⟨d, h1, h2⟩ => ⟨d, k d h1, h2⟩
theorem EvT.imp {P P' : Bool → Prop} (h : EvT c tt Γ w P) (k : ∀ b, P b → P' b) : EvT c tt Γ w P' := fun w1 σ r s Q q => h w1 σ r s Q fun b w2 r2 p => q b w2 r2 (k b p)
/-- a new list, as data -/
theorem EvN.ev {P : List PyData → Prop} (h : EvN c te Γ w P) : EvD c te Γ w (fun d => ∃ ds, d = .list ds ∧ P ds) := fun w1 σ r s Q q => h w1 σ r s Q fun p ds w2 r2 hp hP ⟨h1, xs, h2, h3⟩ =>
  q (.ref p) (w2.frz p (.lst xs) h2) (R.frz r2 hp h2 h1) ⟨_, ⟨ds, rfl, hP⟩, .lst upd_same (dal_mono (ext_new h1) h3)⟩
theorem EvN.eve {ds : List PyData} (h : EvN c te Γ w (fun e => e = ds)) : EvE c te Γ w (.list ds) := EvD.imp h.ev fun d ⟨e, h1, h2⟩ => by rw [h1, h2]
theorem EvN.imp {P P' : List PyData → Prop} (h : EvN c te Γ w P) (k : ∀ ds, P ds → P' ds) : EvN c te Γ w P' := fun w1 σ r s Q q => h w1 σ r s Q fun p ds w2 r2 hp hP m => q p ds w2 r2 hp (k ds hP) m

/-! names, constants -/
theorem ev_var {i : Nat} {d : PyData} (h : Γ[i]? = some (.dat d)) : EvE c (tVar i) Γ w d := fun w1 σ r s Q q => by
  obtain ⟨x, h1, v, h2, h3⟩ := s.get h
  subst h2
  exact ⟨v, h1, q v w1 (R.refl _ _) ⟨d, rfl, h3⟩⟩
theorem ev_raw {i : Nat} {v : V} (h : Γ[i]? = some (.raw v)) : Ev c (tVar i) Γ w (fun u _ => u = v) := fun w1 σ r s Q q => by
  obtain ⟨x, h1, h2⟩ := s.get h
  have h2 : x = some v := h2
  subst h2
  exact ⟨v, h1, q v w1 (R.refl _ _) rfl⟩
theorem ev_c {v : V} {d : PyData} (h : ∀ G, Da G v d) : EvE c (tC v) Γ w d := fun w1 σ r s Q q => q v w1 (R.refl _ _) ⟨d, rfl, h _⟩
theorem ev_int {i : Int} : EvE c (tC (.int i)) Γ w (.int i) := ev_c fun _ => .int i
theorem ev_str {i : Str} : EvE c (tC (.str i)) Γ w (.str i) := ev_c fun _ => .str i
theorem ev_bl {i : Bool} : EvE c (tC (.bl i)) Γ w (.bool i) := ev_c fun _ => .bl i
theorem ev_non : EvE c (tC .non) Γ w .none := ev_c fun _ => .non
/-! operators -/
/-- an operator on data -/
def RD (c : Option Addr) (r : R2) (d e : PyData) (P : PyData → Prop) : Prop := ∀ (w1 : Wo) (x y : V), Da w1.G x d → Da w1.G y e → ∀ Q : VK, (∀ v w2, R c w1 w2 → D P v w2 → Q v w2.H) → r x y w1.H Q
theorem ev_op {r : R2} (ha : EvD c ta Γ w D1) (hb : EvD c tb Γ w D2) (hr : ∀ d e, D1 d → D2 e → RD c r d e D3) : EvD c (tOp r ta tb) Γ w D3 := fun w1 σ r1 s1 Q q =>
  ha w1 σ r1 s1 _ fun x w2 r2 ⟨d, p1, dx⟩ => hb w2 σ (r1.trans r2) (s1.mono r2) _ fun y w3 r3 ⟨e, p2, dy⟩ => hr d e p1 p2 w3 x y (da_mono r3.g dx) dy Q fun v w4 r4 p => q v w4 ((r2.trans r3).trans r4) p
theorem ev_ope {r : R2} {d e : PyData} (ha : EvE c ta Γ w d) (hb : EvE c tb Γ w e) (hr : RD c r d e D3) : EvD c (tOp r ta tb) Γ w D3 := ev_op ha hb fun _ _ h1 h2 => by rw [h1, h2]; exact hr
theorem rd_i {g : Int → Int → Int} {i j : Int} : RD c (rI0 fun i j => .int (g i j)) (.int i) (.int j) (fun d => d = .int (g i j)) := fun w1 x y hx hy Q q => ⟨i, j, hx.intV, hy.intV, q _ w1 (R.refl _ _) ⟨_, rfl, .int _⟩⟩
theorem rd_b {g : Int → Int → Bool} {i j : Int} : RD c (rI0 fun i j => .bl (g i j)) (.int i) (.int j) (fun d => d = .bool (g i j)) := fun w1 x y hx hy Q q => ⟨i, j, hx.intV, hy.intV, q _ w1 (R.refl _ _) ⟨_, rfl, .bl _⟩⟩
theorem rd_ic {C : Int → Int → Prop} {g : Int → Int → Int} {i j : Int} (hc : C i j) : RD c (rI C fun i j => .int (g i j)) (.int i) (.int j) (fun d => d = .int (g i j)) := fun w1 x y hx hy Q q => ⟨i, j, hx.intV, hy.intV, hc, q _ w1 (R.refl _ _) ⟨_, rfl, .int _⟩⟩
theorem rd_eq {K : PySem.W.Frag} {d e : PyData} (h1 : SeqAt.shaped d = true) (h2 : SeqAt.shaped e = true) : RD c (rEqD K) d e (fun b => b = .bool (PyData.eqv d e)) := fun w1 x y hx hy Q q =>
  ⟨d, e, Da.dp d x (da_mono w1.ok hx), Da.dp e y (da_mono w1.ok hy), h1, h2, q _ w1 (R.refl _ _) ⟨_, rfl, .bl _⟩⟩
theorem rd_ne {K : PySem.W.Frag} {d e : PyData} (h1 : SeqAt.shaped d = true) (h2 : SeqAt.shaped e = true) : RD c (rNeD K) d e (fun b => b = .bool (!PyData.eqv d e)) := fun w1 x y hx hy Q q =>
  ⟨d, e, Da.dp d x (da_mono w1.ok hx), Da.dp e y (da_mono w1.ok hy), h1, h2, q _ w1 (R.refl _ _) ⟨_, rfl, .bl _⟩⟩
theorem rd_in {K : PySem.W.Frag} {d : PyData} {ds : List PyData} (h1 : SeqAt.shaped d = true) (h2 : SeqAt.shaped (.list ds) = true) : RD c (rInD K) d (.list ds) (fun b => b = .bool (ds.any fun z => PyData.eqv z d)) := fun w1 x y hx hy Q q =>
  ⟨d, ds, Da.dp d x (da_mono w1.ok hx), Da.dp _ y (da_mono w1.ok hy), h1, h2, q _ w1 (R.refl _ _) ⟨_, rfl, .bl _⟩⟩
theorem rd_nin {K : PySem.W.Frag} {d : PyData} {ds : List PyData} (h1 : SeqAt.shaped d = true) (h2 : SeqAt.shaped (.list ds) = true) : RD c (rNotInD K) d (.list ds) (fun b => b = .bool (!ds.any fun z => PyData.eqv z d)) := fun w1 x y hx hy Q q =>
  ⟨d, ds, Da.dp d x (da_mono w1.ok hx), Da.dp _ y (da_mono w1.ok hy), h1, h2, q _ w1 (R.refl _ _) ⟨_, rfl, .bl _⟩⟩
theorem ixN_nat {n : Nat} {j : Nat} (h : j < n) : ixN n (j : Int) = some j := by
  unfold ixN
  rw [if_pos (by omega), if_pos (by omega)]
  simp
theorem rd_ixL {K : PySem.W.Frag} {ds : List PyData} {j : Nat} {d : PyData} (h : ds[j]? = some d) : RD c (rIxL K) (.list ds) (.int (j : Int)) (fun e => e = d) := fun w1 x y hx hy Q q => by
  obtain ⟨a, xs, rfl, hG, hl⟩ := hx.lstV
  obtain ⟨v, hv, dv⟩ := hl.get h
  exact ⟨a, xs, j, v, rfl, hy.intV, SqL.of (w1.ok _ _ hG), atI_nat hv, q v w1 (R.refl _ _) ⟨d, rfl, dv⟩⟩
theorem rd_ixT {K : PySem.W.Frag} {ds : List PyData} {j : Nat} {d : PyData} (h : ds[j]? = some d) : RD c (rIxT K) (.tuple ds) (.int (j : Int)) (fun e => e = d) := fun w1 x y hx hy Q q => by
  obtain ⟨a, xs, rfl, hG, hl⟩ := hx.tupV
  obtain ⟨v, hv, dv⟩ := hl.get h
  exact ⟨a, xs, j, v, rfl, hy.intV, SqT.of (w1.ok _ _ hG), atI_nat hv, q v w1 (R.refl _ _) ⟨d, rfl, dv⟩⟩
/-- tuple + tuple -/
theorem rd_catT {K : PySem.W.Frag} {ds es : List PyData} (hz : ds.length + es.length ≤ 100000) : RD c (rCatA K) (.tuple ds) (.tuple es) (fun e => e = .tuple (ds ++ es)) := fun w1 x y hx hy Q q => by
  obtain ⟨a, xs, rfl, hG, hl⟩ := hx.tupV
  obtain ⟨b, ys, rfl, hG2, hl2⟩ := hy.tupV
  refine ⟨a, b, xs, ys, rfl, rfl, SqT.of (w1.ok _ _ hG), SqT.of (w1.ok _ _ hG2), ?_, fun e => ?_, fun _ e => ?_, fun _ _ p hp => ?_⟩
  · rw [hl.len, hl2.len, sizeLine_eq]; omega
  · subst e
    cases hl
    exact q _ w1 (R.refl _ _) ⟨_, rfl, hy⟩
  · subst e
    cases hl2
    exact q _ w1 (R.refl _ _) ⟨_, rfl, by rw [List.append_nil]; exact hx⟩
  · exact q _ (w1.new p (.tup (xs ++ ys))) (R.new _ hp) ⟨_, rfl, .tup upd_same (dal_mono (ext_new (w1.out hp)) (hl.app hl2))⟩
/-- list + list: a new one -/
theorem ev_catL {ds es : List PyData} (ha : EvE c ta Γ w (.list ds)) (hb : EvE c tb Γ w (.list es)) (hz : ds.length + es.length ≤ 100000) : EvN c (tOp rCat ta tb) Γ w (fun e => e = ds ++ es) := fun w1 σ r1 s1 Q q =>
  ha w1 σ r1 s1 _ fun x w2 r2 ⟨d, p1, dx⟩ => hb w2 σ (r1.trans r2) (s1.mono r2) _ fun y w3 r3 ⟨e, p2, dy⟩ => by
    subst p1 p2
    obtain ⟨a, xs, rfl, hG, hl⟩ := dx.lstV
    obtain ⟨b, ys, rfl, hG2, hl2⟩ := dy.lstV
    refine ⟨a, b, xs, ys, rfl, rfl, w3.ok _ _ (r3.g _ _ hG), w3.ok _ _ hG2, ?_, fun p hp => ?_⟩
    · rw [hl.len, hl2.len, sizeLine_eq]; omega
    · have hG3 := w3.out hp
      exact q p _ (w3.put p (.lst (xs ++ ys)) hG3) ((r2.trans r3).trans ((R.refl _ _).put hp hG3)) ((r2.trans r3).free hp) rfl ⟨hG3, _, upd_same, (dal_mono r3.g hl).app hl2⟩
theorem ev_un {f : Int → Int} {i : Int} (ha : EvE c ta Γ w (.int i)) : EvE c (tUn (rU fun i => .int (f i)) ta) Γ w (.int (f i)) := fun w1 σ r s Q q => ha w1 σ r s _ fun v w2 r2 ⟨d, h1, h2⟩ => by
  subst h1
  exact ⟨i, h2.intV, q _ w2 r2 ⟨_, rfl, .int _⟩⟩
/-! tests -/
theorem et_test {b : Bool} (h : EvE c te Γ w (.bool b)) : EvT c (tTest te) Γ w (fun e => e = b) := fun w1 σ r s Q q => h w1 σ r s _ fun v w2 r2 ⟨d, h1, h2⟩ => by
  subst h1
  exact ⟨b, h2.blV, q b w2 r2 rfl⟩
theorem et_B {b : Bool} (h : EvE c te Γ w (.bool b)) : EvT c (tB te) Γ w (fun e => e = b) := et_test h
theorem et_testP {P : Bool → Prop} (h : EvD c te Γ w (fun d => ∃ b, d = .bool b ∧ P b)) : EvT c (tTest te) Γ w P := fun w1 σ r s Q q => h w1 σ r s _ fun v w2 r2 ⟨d, ⟨b, h1, h3⟩, h2⟩ => by
  subst h1
  exact ⟨b, h2.blV, q b w2 r2 h3⟩
theorem et_not {b : Bool} (h : EvT c tt Γ w (fun e => e = b)) : EvT c (tNot tt) Γ w (fun e => e = !b) := fun w1 σ r s Q q => h w1 σ r s _ fun v w2 r2 h1 => q _ w2 r2 (by rw [h1])
theorem et_and {a b : Bool} (h1 : EvT c tt Γ w (fun e => e = a)) (h2 : a = true → EvT c tu Γ w (fun e => e = b)) : EvT c (tAnd tt tu) Γ w (fun e => e = (a && b)) := fun w1 σ r s Q q => h1 w1 σ r s _ fun v w2 r2 e => by
  subst e
  cases v with
  | true => exact h2 rfl w2 σ (r.trans r2) (s.mono r2) Q fun b' w3 r3 e => q b' w3 (r2.trans r3) (by rw [e]; rfl)
  | false => exact q false w2 r2 rfl
theorem et_or {a b : Bool} (h1 : EvT c tt Γ w (fun e => e = a)) (h2 : a = false → EvT c tu Γ w (fun e => e = b)) : EvT c (tOr tt tu) Γ w (fun e => e = (a || b)) := fun w1 σ r s Q q => h1 w1 σ r s _ fun v w2 r2 e => by
  subst e
  cases v with
  | true => exact q true w2 r2 rfl
  | false => exact h2 rfl w2 σ (r.trans r2) (s.mono r2) Q fun b' w3 r3 e => q b' w3 (r2.trans r3) (by rw [e]; rfl)
theorem ev_and {a b : Bool} (h1 : EvE c ta Γ w (.bool a)) (h2 : a = true → EvE c tb Γ w (.bool b)) : EvE c (tAndV ta tb) Γ w (.bool (a && b)) := fun w1 σ r s Q q => h1 w1 σ r s _ fun v w2 r2 ⟨d, e, hd⟩ => by
  subst e
  refine ⟨a, hd.blV, ?_⟩
  cases a with
  | true => exact h2 rfl w2 σ (r.trans r2) (s.mono r2) Q fun b' w3 r3 e => q b' w3 (r2.trans r3) e
  | false => exact q _ w2 r2 ⟨_, rfl, .bl _⟩
theorem ev_or {a b : Bool} (h1 : EvE c ta Γ w (.bool a)) (h2 : a = false → EvE c tb Γ w (.bool b)) : EvE c (tOrV ta tb) Γ w (.bool (a || b)) := fun w1 σ r s Q q => h1 w1 σ r s _ fun v w2 r2 ⟨d, e, hd⟩ => by
  subst e
  refine ⟨a, hd.blV, ?_⟩
  cases a with
  | true => exact q _ w2 r2 ⟨_, rfl, .bl _⟩
  | false => exact h2 rfl w2 σ (r.trans r2) (s.mono r2) Q fun b' w3 r3 e => q b' w3 (r2.trans r3) e
theorem ev_not {a : Bool} (h1 : EvE c ta Γ w (.bool a)) : EvE c (tNotV ta) Γ w (.bool (!a)) := fun w1 σ r s Q q => h1 w1 σ r s _ fun v w2 r2 ⟨d, e, hd⟩ => by
  subst e
  exact ⟨a, hd.blV, q _ w2 r2 ⟨_, rfl, .bl _⟩⟩
theorem ev_isN {d : PyData} (ha : EvE c ta Γ w d) : EvE c (tIsN ta) Γ w (.bool (isN d)) := fun w1 σ r s Q q => ha w1 σ r s _ fun v w2 r2 ⟨e, h1, h2⟩ => by
  subst h1
  refine q _ w2 r2 ⟨_, rfl, ?_⟩
  rw [h2.isN]
  exact .bl _
theorem ev_notN {d : PyData} (ha : EvE c ta Γ w d) : EvE c (tNotN ta) Γ w (.bool (!isN d)) := fun w1 σ r s Q q => ha w1 σ r s _ fun v w2 r2 ⟨e, h1, h2⟩ => by
  subst h1
  refine q _ w2 r2 ⟨_, rfl, ?_⟩
  rw [h2.isN]
  exact .bl _
/-- a < b < c of ints -/
theorem ev_chain {tc : TE} {f g : Int → Int → Bool} {i j k : Int} (ha : EvE c ta Γ w (.int i)) (hb : EvE c tb Γ w (.int j)) (hc : EvE c tc Γ w (.int k)) :
    EvE c (tChain (rI0 fun i j => .bl (f i j)) (rI0 fun i j => .bl (g i j)) ta tb tc) Γ w (.bool (f i j && g j k)) := fun w1 σ r s Q q => ha w1 σ r s _ fun v w2 r2 ⟨d, e, hd⟩ => by
  subst e
  refine hb w2 σ (r.trans r2) (s.mono r2) _ fun u w3 r3 ⟨d, e, hu⟩ => ?_
  subst e
  refine ⟨i, j, hd.intV, hu.intV, f i j, rfl, ?_⟩
  cases hf : f i j with
  | true =>
    rw [if_pos rfl]
    refine hc w3 σ ((r.trans r2).trans r3) ((s.mono r2).mono r3) _ fun x w4 r4 ⟨d, e, hx⟩ => ?_
    subst e
    exact ⟨j, k, hu.intV, hx.intV, q _ w4 ((r2.trans r3).trans r4) ⟨_, rfl, by rw [hf, Bool.true_and]; exact .bl _⟩⟩
  | false =>
    rw [if_neg Bool.false_ne_true]
    exact q _ w3 (r2.trans r3) ⟨_, rfl, by rw [hf, Bool.false_and]; exact .bl _⟩
/-! arguments, displays -/
theorem ea_nil : EvA c tNil Γ w (DL fun ds => ds = []) := fun w1 σ r s Q q => q [] w1 (R.refl _ _) ⟨[], rfl, .nil⟩
theorem ea_cons {L1 : List PyData → Prop} (ha : EvD c ta Γ w D1) (hr : EvA c tr Γ w (DL L1)) : EvA c (tCons ta tr) Γ w (DL fun ds => ∃ d es, ds = d :: es ∧ D1 d ∧ L1 es) := fun w1 σ r s Q q =>
  ha w1 σ r s _ fun v w2 r2 ⟨d, h1, h2⟩ => hr w2 σ (r.trans r2) (s.mono r2) _ fun vs w3 r3 ⟨es, h3, h4⟩ => q _ w3 (r2.trans r3) ⟨_, ⟨d, es, rfl, h1, h3⟩, .cons (da_mono r3.g h2) h4⟩
abbrev EvAE (c : Option Addr) (ta : TA) (Γ : List De) (w : Wo) (ds : List PyData) : Prop := EvA c ta Γ w (DL fun e => e = ds)
theorem ea_conse {d : PyData} {ds : List PyData} (ha : EvE c ta Γ w d) (hr : EvAE c tr Γ w ds) : EvAE c (tCons ta tr) Γ w (d :: ds) := fun w1 σ r s Q q =>
  ea_cons ha hr w1 σ r s Q fun vs w2 r2 ⟨es, ⟨d', es', h1, h2, h3⟩, h4⟩ => q vs w2 r2 ⟨es, by rw [h1, h2, h3], h4⟩
theorem EvA.impD {L1 L2 : List PyData → Prop} (h : EvA c tr Γ w (DL L1)) (k : ∀ ds, L1 ds → L2 ds) : EvA c tr Γ w (DL L2) := fun w1 σ r s Q q => h w1 σ r s Q fun vs w2 r2 ⟨es, h1, h2⟩ => q vs w2 r2 ⟨es, k es h1, h2⟩
theorem ev_tup {L1 : List PyData → Prop} (h : EvA c tr Γ w (DL L1)) (hz : ∀ ds, L1 ds → ds.length ≤ 100000) : EvD c (tTup tr) Γ w (fun d => ∃ ds, d = .tuple ds ∧ L1 ds) := fun w1 σ r s Q q =>
  h w1 σ r s _ fun vs w2 r2 ⟨ds, h1, h2⟩ => ⟨by rw [h2.len, sizeLine_eq]; have := hz ds h1; omega, fun p hp => q _ (w2.new p (.tup vs)) (r2.trans (R.new _ hp)) ⟨_, ⟨ds, rfl, h1⟩, .tup upd_same (dal_mono (ext_new (w2.out hp)) h2)⟩⟩
theorem ev_tupe {ds : List PyData} (h : EvAE c tr Γ w ds) (hz : ds.length ≤ 100000) : EvE c (tTup tr) Γ w (.tuple ds) := EvD.imp (ev_tup h fun e he => by rw [he]; exact hz) fun d ⟨e, h1, h2⟩ => by rw [h1, h2]
theorem ev_lst {L1 : List PyData → Prop} (h : EvA c tr Γ w (DL L1)) (hz : ∀ ds, L1 ds → ds.length ≤ 100000) : EvN c (tLst tr) Γ w L1 := fun w1 σ r s Q q =>
  h w1 σ r s _ fun vs w2 r2 ⟨ds, h1, h2⟩ => ⟨by rw [h2.len, sizeLine_eq]; have := hz ds h1; omega, fun p hp => q p ds (w2.put p (.lst vs) (w2.out hp)) (r2.trans ((R.refl _ _).put hp (w2.out hp))) (r2.free hp) h1 ⟨w2.out hp, _, upd_same, h2⟩⟩
end
end U
end

section
set_option maxRecDepth 100000
set_option maxHeartbeats 4000000
/-! The layer of data, second part: what is walked, comprehensions, statements, loops, calls. -/
namespace U
open PySem PySem.Spec PyProof.Rows L2

/-! ### targets -/
theorem wipe_get : ∀ (us : List Nat) (τ : L2.St) (i : Nat), (wipe τ us)[i]? = if i ∈ us then (if i < τ.length then some none else none) else τ[i]? := by
  intro us
  induction us with
  | nil => intro τ i; simp [wipe]
  | cons u us ih =>
    intro τ i
    unfold wipe
    rw [List.getElem?_set, wipe_length, ih]
    by_cases h : u = i
    · subst h; simp
    · simp only [if_neg h, List.mem_cons]
      by_cases h2 : i ∈ us
      · simp [h2]
      · simp [h2, Ne.symm h]
theorem wipe_wipe (σ : L2.St) (vs : List Nat) : wipe (wipe σ vs) vs = wipe σ vs := by
  apply List.ext_getElem?
  intro i
  rw [wipe_get, wipe_get, wipe_length]
  split <;> rfl
theorem wipe_set (σ : L2.St) (x : Option V) (vs : List Nat) (j : Nat) (h : j ∈ vs) : wipe (σ.set j x) vs = wipe σ vs := by
  apply List.ext_getElem?
  intro i
  rw [wipe_get, wipe_get, List.length_set]
  split
  · rfl
  · rename_i hi
    rw [List.getElem?_set_ne]
    intro e
    rw [e] at h
    exact hi h
/-- a target takes a datum: the slots js are stored -/
def Tg (g : TG) (js : List Nat) (d : PyData) (Γ Γ' : List De) : Prop := ∀ (c : Option Addr) (w : Wo) (x : V) (σ : L2.St) (k : L2.St → Hp → Prop), Da w.G x d → Sl c w σ Γ →
  (∀ σ', Sl c w σ' Γ' → (∀ vs : List Nat, (∀ j ∈ js, j ∈ vs) → wipe σ' vs = wipe σ vs) → k σ' w.H) → g x σ w.H k
def Tgs (t : TGs) (js : List Nat) (ds : List PyData) (Γ Γ' : List De) : Prop := ∀ (c : Option Addr) (w : Wo) (xs : List V) (σ : L2.St) (k : L2.St → Hp → Prop), DaL w.G xs ds → Sl c w σ Γ →
  (∀ σ', Sl c w σ' Γ' → (∀ vs : List Nat, (∀ j ∈ js, j ∈ vs) → wipe σ' vs = wipe σ vs) → k σ' w.H) → t xs σ w.H k
theorem tg_name {j : Nat} {d : PyData} {Γ : List De} : Tg (gName j) [j] d Γ (Γ.set j (.dat d)) := fun c w x σ k hx s q =>
  q _ (Sl.set (x := some x) (e := .dat d) ⟨x, rfl, hx⟩ j s) fun vs hj => wipe_set σ (some x) vs j (hj j (by simp))
theorem tgs_nil {Γ : List De} : Tgs gNil [] [] Γ Γ := fun c w xs σ k hx s q => by
  cases hx
  exact ⟨rfl, q σ s fun _ _ => rfl⟩
theorem tgs_cons {t : TG} {u : TGs} {js ks : List Nat} {d : PyData} {ds : List PyData} {Γ Γ1 Γ2 : List De} (h1 : Tg t js d Γ Γ1) (h2 : Tgs u ks ds Γ1 Γ2) : Tgs (gCons t u) (js ++ ks) (d :: ds) Γ Γ2 := fun c w xs σ k hx s q => by
  cases hx with
  | cons a b =>
    refine ⟨_, _, rfl, h1 c w _ σ _ a s fun σ1 s1 e1 => h2 c w _ σ1 _ b s1 fun σ2 s2 e2 => q σ2 s2 fun vs hv => ?_⟩
    rw [e2 vs fun j hj => hv j (List.mem_append_right _ hj), e1 vs fun j hj => hv j (List.mem_append_left _ hj)]
theorem tg_tup {K : PySem.W.Frag} {n : Nat} {t : TGs} {js : List Nat} {ds : List PyData} {Γ Γ' : List De} (h : Tgs t js ds Γ Γ') (hn : ds.length = n := by rfl) : Tg (gTup K n t) js (.tuple ds) Γ Γ' := fun c w x σ k hx s q => by
  obtain ⟨a, xs, rfl, hG, hl⟩ := hx.tupV
  exact ⟨a, xs, rfl, SqT.of (w.ok _ _ hG), by rw [hl.len, hn], h c w xs σ k hl s q⟩

/-! ### what is walked -/
/-- an iterator gives out these data, at any world that knows G0 -/
def ItD (J : It) (G0 : Hp) (its : List PyData) : Prop :=
  (∀ (i : Nat) (d : PyData) (w : Wo), Ext G0 w.G → its[i]? = some d → J.go i w.H ∧ ∀ x H', J.yld i w.H x H' → ∃ w', H' = w'.H ∧ R none w w' ∧ Da w'.G x d) ∧ ∀ w : Wo, Ext G0 w.G → J.stop its.length w.H
def EvI (c : Option Addr) (wi : TI) (Γ : List De) (w : Wo) (its : List PyData) : Prop := ∀ w1 σ, R c w w1 → Sl c w1 σ Γ → ∀ k : It → Hp → Prop, (∀ J w2, R c w1 w2 → ItD J w2.G its → k J w2.H) → wi σ w1.H k
section
variable {K : PySem.W.Frag} {c : Option Addr} {Γ : List De} {w : Wo} {te ta tb tl : TE} {tt : TT} {tr : TA}
theorem itd_list {a : Addr} {xs : List V} {ds : List PyData} {G0 : Hp} (h : G0 a = some (.lst xs)) (hd : DaL G0 xs ds) : ItD (Itl K a) G0 ds := by
  refine ⟨fun i d w e hi => ?_, fun w e => ⟨xs, SqL.of (w.ok _ _ (e _ _ h)), by rw [hd.len]; exact Nat.le_refl _⟩⟩
  obtain ⟨x, hx, dx⟩ := hd.get hi
  refine ⟨⟨xs, x, SqL.of (w.ok _ _ (e _ _ h)), hx⟩, fun y H' ⟨e1, e2⟩ => ⟨w, e1, R.refl _ _, ?_⟩⟩
  have := e2 xs (SqL.of (w.ok _ _ (e _ _ h)))
  rw [hx] at this
  cases this
  exact da_mono e dx
theorem itd_tup {a : Addr} {xs : List V} {ds : List PyData} {G0 : Hp} (h : G0 a = some (.tup xs)) (hd : DaL G0 xs ds) : ItD (Itt K a) G0 ds := by
  refine ⟨fun i d w e hi => ?_, fun w e => ⟨xs, SqT.of (w.ok _ _ (e _ _ h)), by rw [hd.len]; exact Nat.le_refl _⟩⟩
  obtain ⟨x, hx, dx⟩ := hd.get hi
  refine ⟨⟨xs, x, SqT.of (w.ok _ _ (e _ _ h)), hx⟩, fun y H' ⟨e1, e2⟩ => ⟨w, e1, R.refl _ _, ?_⟩⟩
  have := e2 xs (SqT.of (w.ok _ _ (e _ _ h)))
  rw [hx] at this
  cases this
  exact da_mono e dx
theorem itd_range {lo : Int} {n : Nat} {G0 : Hp} : ItD (Itr lo n) G0 ((List.range n).map fun (i : Nat) => .int (lo + (i : Int))) := by
  refine ⟨fun i d w e hi => ?_, fun w e => by show n ≤ _; rw [List.length_map, List.length_range]; exact Nat.le_refl _⟩
  have hlt : i < n := by
    have := (List.getElem?_eq_some_iff.mp hi).1
    simpa using this
  have hd : d = .int (lo + (i : Int)) := by
    rw [List.getElem?_map, List.getElem?_range hlt] at hi
    exact (Option.some.inj hi).symm
  refine ⟨hlt, fun y H' ⟨e1, e2⟩ => ⟨w, e1, R.refl _ _, ?_⟩⟩
  rw [e2, hd]
  exact .int _
theorem da_pair {w : Wo} {T : Addr} {x y : V} {d e : PyData} (hT : w.H T = none) (hx : Da w.G x d) (hy : Da w.G y e) : Da (w.new T (.tup [x, y])).G (.ref T) (.tuple [d, e]) :=
  .tup upd_same (.cons (da_mono (ext_new (w.out hT)) hx) (.cons (da_mono (ext_new (w.out hT)) hy) .nil))
theorem itd_enum {a : Addr} {xs : List V} {ds : List PyData} {G0 : Hp} (h : G0 a = some (.lst xs)) (hd : DaL G0 xs ds) : ItD (Ite K a) G0 (ds.zipIdx.map fun p => .tuple [.int (p.2 : Int), p.1]) := by
  refine ⟨fun i d w e hi => ?_, fun w e => ⟨xs, SqL.of (w.ok _ _ (e _ _ h)), by rw [hd.len, List.length_map, List.length_zipIdx]; exact Nat.le_refl _⟩⟩
  rw [List.getElem?_map, List.getElem?_zipIdx] at hi
  cases q : ds[i]? with
  | none => rw [q] at hi; cases hi
  | some d0 =>
    rw [q] at hi
    have hi : PyData.tuple [.int ((0 + i : Nat) : Int), d0] = d := Option.some.inj hi
    obtain ⟨x, hx, dx⟩ := hd.get q
    refine ⟨⟨xs, x, SqL.of (w.ok _ _ (e _ _ h)), hx⟩, fun y H' ⟨T, z, e1, e2, e3, e4⟩ => ⟨w.new T (.tup [.int (i : Nat), z]), e3, R.new _ e2, ?_⟩⟩
    have := e4 xs (SqL.of (w.ok _ _ (e _ _ h)))
    rw [hx] at this
    cases this
    rw [e1, ← hi, Nat.zero_add]
    exact da_pair e2 (.int _) (da_mono e dx)
theorem itd_zip {a b : Addr} {xs ys : List V} {ds es : List PyData} {G0 : Hp} (h : G0 a = some (.tup xs)) (hd : DaL G0 xs ds) (h2 : G0 b = some (.tup ys)) (hd2 : DaL G0 ys es) : ItD (RZ.ItzT K a b) G0 ((ds.zip es).map fun p => .tuple [p.1, p.2]) := by
  refine ⟨fun i d w e hi => ?_, fun w e => ⟨xs, ys, SqT.of (w.ok _ _ (e _ _ h)), SqT.of (w.ok _ _ (e _ _ h2)), by rw [hd.len, hd2.len, List.length_map, List.length_zip]; omega⟩⟩
  rw [List.getElem?_map] at hi
  cases q : (ds.zip es)[i]? with
  | none => rw [q] at hi; cases hi
  | some p =>
    rw [q] at hi
    have hi : PyData.tuple [p.1, p.2] = d := Option.some.inj hi
    obtain ⟨q1, q2⟩ := List.getElem?_zip_eq_some.mp q
    obtain ⟨x, hx, dx⟩ := hd.get q1
    obtain ⟨y, hy, dy⟩ := hd2.get q2
    refine ⟨⟨xs, ys, x, y, SqT.of (w.ok _ _ (e _ _ h)), SqT.of (w.ok _ _ (e _ _ h2)), hx, hy⟩, fun z H' ⟨T, x', y', e1, e2, e3, e4, e5⟩ => ⟨w.new T (.tup [x', y']), e3, R.new _ e2, ?_⟩⟩
    have h4 := e4 xs (SqT.of (w.ok _ _ (e _ _ h)))
    have h5 := e5 ys (SqT.of (w.ok _ _ (e _ _ h2)))
    rw [hx] at h4
    rw [hy] at h5
    cases h4
    cases h5
    rw [e1, ← hi]
    exact da_pair e2 (da_mono e dx) (da_mono e dy)
theorem ei_list {ds : List PyData} (h : EvE c tl Γ w (.list ds)) : EvI c (iList K tl) Γ w ds := fun w1 σ r s k q => h w1 σ r s _ fun v w2 r2 ⟨d, e, hd⟩ => by
  subst e
  obtain ⟨a, xs, rfl, hG, hl⟩ := hd.lstV
  exact ⟨a, rfl, ⟨xs, SqL.of (w2.ok _ _ hG)⟩, q _ w2 r2 (itd_list hG hl)⟩
theorem ei_tup {ds : List PyData} (h : EvE c tl Γ w (.tuple ds)) : EvI c (iTup K tl) Γ w ds := fun w1 σ r s k q => h w1 σ r s _ fun v w2 r2 ⟨d, e, hd⟩ => by
  subst e
  obtain ⟨a, xs, rfl, hG, hl⟩ := hd.tupV
  exact ⟨a, rfl, ⟨xs, SqT.of (w2.ok _ _ hG)⟩, q _ w2 r2 (itd_tup hG hl)⟩
theorem ei_range1 {n : Nat} (h : EvAE c tr Γ w [.int (n : Int)]) (hn : n ≤ 100000) : EvI c (iRng1 tr) Γ w ((List.range n).map fun (i : Nat) => .int (i : Int)) := fun w1 σ r s k q => h w1 σ r s _ fun v w2 r2 ⟨d, e, hd⟩ => by
  subst e
  cases hd with
  | cons h1 h2 =>
    cases h2
    refine ⟨(n : Int), by rw [h1.intV], by omega, by omega, ?_⟩
    have := q (Itr 0 ((n : Int)).toNat) w2 r2 (by
      have := itd_range (lo := 0) (n := n) (G0 := w2.G)
      simpa using this)
    exact this
theorem ei_range2 {lo hi : Int} (h : EvAE c tr Γ w [.int lo, .int hi]) (h1 : -100000 ≤ lo) (h2 : lo ≤ 100000) (h3 : -100000 ≤ hi) (h4 : hi ≤ 100000) : EvI c (iRng2 tr) Γ w ((List.range (hi - lo).toNat).map fun (i : Nat) => .int (lo + (i : Int))) := fun w1 σ r s k q => h w1 σ r s _ fun v w2 r2 ⟨d, e, hd⟩ => by
  subst e
  cases hd with
  | cons e1 e2 =>
    cases e2 with
    | cons e2 e3 =>
      cases e3
      exact ⟨lo, hi, by rw [e1.intV, e2.intV], ⟨by omega, by omega, by omega, by omega⟩, q _ w2 r2 itd_range⟩
theorem ei_enum {ds : List PyData} (h : EvAE c tr Γ w [.list ds]) : EvI c (iEnum K tr) Γ w (ds.zipIdx.map fun p => .tuple [.int (p.2 : Int), p.1]) := fun w1 σ r s k q => h w1 σ r s _ fun v w2 r2 ⟨d, e, hd⟩ => by
  subst e
  cases hd with
  | cons h1 h2 =>
    cases h2
    obtain ⟨a, xs, rfl, hG, hl⟩ := h1.lstV
    exact ⟨a, xs, rfl, SqL.of (w2.ok _ _ hG), q _ w2 r2 (itd_enum hG hl)⟩
theorem ei_zip {ds es : List PyData} (h : EvAE c tr Γ w [.tuple ds, .tuple es]) : EvI c (RZ.iZipA K tr) Γ w ((ds.zip es).map fun p => .tuple [p.1, p.2]) := fun w1 σ r s k q => h w1 σ r s _ fun v w2 r2 ⟨d, e, hd⟩ => by
  subst e
  cases hd with
  | cons h1 h2 =>
    cases h2 with
    | cons h2 h3 =>
      cases h3
      obtain ⟨a, xs, rfl, hG, hl⟩ := h1.tupV
      obtain ⟨b, ys, rfl, hG2, hl2⟩ := h2.tupV
      exact ⟨a, b, xs, ys, rfl, .inr ⟨SqT.of (w2.ok _ _ hG), SqT.of (w2.ok _ _ hG2), q _ w2 r2 (itd_zip hG hl hG2 hl2)⟩⟩
theorem EvI.eq {its its' : List PyData} {wi : TI} (h : EvI c wi Γ w its) (e : its = its') : EvI c wi Γ w its' := e ▸ h

/-! ### comprehensions -/
/-- a list of data, item by item -/
inductive F2 {α : Type} (P : α → PyData → Prop) : List α → List PyData → Prop
  | nil : F2 P [] []
  | cons {x : α} {xs : List α} {d : PyData} {ds : List PyData} : P x d → F2 P xs ds → F2 P (x :: xs) (d :: ds)
theorem F2.app {α : Type} {P : α → PyData → Prop} : ∀ {xs ys : List α} {ds es : List PyData}, F2 P xs ds → F2 P ys es → F2 P (xs ++ ys) (ds ++ es)
  | _, _, _, _, .nil, h => h
  | _, _, _, _, .cons a b, h => .cons a (F2.app b h)
theorem F2.eq {α : Type} {f : α → PyData} : ∀ {xs : List α} {ds : List PyData}, F2 (fun x d => d = f x) xs ds → ds = xs.map f
  | _, _, .nil => rfl
  | _, _, .cons a b => by rw [a, F2.eq b]; rfl
theorem F2.len {α : Type} {P : α → PyData → Prop} : ∀ {xs : List α} {ds : List PyData}, F2 P xs ds → ds.length = xs.length
  | _, _, .nil => rfl
  | _, _, .cons _ b => by rw [List.length_cons, List.length_cons, F2.len b]
theorem filter_take {α : Type} (p : α → Bool) (xs : List α) (i : Nat) (x : α) (h : xs[i]? = some x) : (xs.take (i + 1)).filter p = (xs.take i).filter p ++ (if p x = true then [x] else []) := by
  rw [List.take_add_one, h, List.filter_append]
  congr 1
  cases hp : p x <;> simp [hp]
theorem ev_lcP {α : Type} {wi : TI} {g : TG} {vs js : List Nat} (xs : List α) (enc : α → PyData) (hi : EvI c wi Γ w (xs.map enc)) (hz : xs.length ≤ 100000) (hj : ∀ j ∈ js, j ∈ vs) (Γx : α → List De) (p : α → Bool) (P : α → PyData → Prop)
    (tg : ∀ x ∈ xs, Tg g js (enc x) (wipeG Γ vs) (Γx x)) (ht : ∀ x ∈ xs, EvT c tt (Γx x) w (fun b => b = p x)) (he : ∀ x ∈ xs, p x = true → EvD c te (Γx x) w (P x)) : EvN c (tLc wi g tt te vs) Γ w (F2 P (xs.filter p)) := fun w1 σ r1 s1 Q q => by
  refine hi w1 σ r1 s1 _ fun J w2 r2 ⟨hgo, hstop⟩ => fun Dl hD => ?_
  have r12 : R c w w2 := r1.trans r2
  -- the new list, outside of the data
  have G2 : w2.G Dl = none := w2.out hD
  refine ⟨fun i m H => m = xs.length - i ∧ i ≤ xs.length ∧ ∃ w3 ds, H = w3.H ∧ R c w2 w3 ∧ ML w3 Dl ds ∧ F2 P ((xs.take i).filter p) ds, ⟨xs.length, by simp, Nat.zero_le _, w2.put Dl (.lst []) G2, [], rfl, (R.refl _ _).put hD G2, ⟨G2, [], upd_same, .nil⟩, by simp; exact .nil⟩, ?_⟩
  rintro i m H ⟨rfl, hle, w3, ds, rfl, r3, m3, f3⟩
  by_cases hlt : i < xs.length
  · have hx : xs[i]? = some xs[i] := List.getElem?_eq_getElem hlt
    have hm : xs[i] ∈ xs := List.getElem_mem hlt
    obtain ⟨go, yld⟩ := hgo i (enc xs[i]) w3 r3.g (by rw [List.getElem?_map, hx]; rfl)
    refine .inr ⟨go, fun H => ∃ w4 ds, H = w4.H ∧ R c w2 w4 ∧ ML w4 Dl ds ∧ F2 P ((xs.take (i + 1)).filter p) ds, fun H' ⟨w4, ds', e, r4, m4, f4⟩ => ⟨xs.length - (i + 1), by omega, rfl, by omega, w4, ds', e, r4, m4, f4⟩, fun x H' hy => ?_⟩
    obtain ⟨w4, rfl, r4', dx⟩ := yld x H' hy
    have r4 : R c w3 w4 := r4'.weak
    have m4 : ML w4 Dl ds := m3.mono (c := none) r4' (by simp)
    have s4 : Sl c w4 (wipe σ vs) (wipeG Γ vs) := ((((s1.mono r2).mono r3).mono r4).wipe vs)
    refine tg xs[i] hm c w4 x (wipe σ vs) _ dx s4 fun σ5 s5 e5 => ⟨by rw [e5 vs hj, wipe_wipe], ?_⟩
    have r24 : R c w2 w4 := r3.trans r4
    refine ht xs[i] hm w4 σ5 (r12.trans r24) s5 _ fun b w5 r5 eb => ?_
    have hnp : ∀ {w5 : Wo}, R c w4 w5 → ML w5 Dl ds := fun {w5} r5 => m4.mono r5 fun hc => (s1.mono r2).cok Dl hc hD
    subst eb
    cases hp : p xs[i] with
    | true =>
      rw [if_pos rfl]
      refine he xs[i] hm hp w5 σ5 ((r12.trans r24).trans r5) (s5.mono r5) _ fun y w6 r6 ⟨d, hd, dy⟩ => ?_
      obtain ⟨h1, ys, h2, h3⟩ := hnp (r5.trans r6)
      refine ⟨ys, h2, by rw [h3.len, f3.len, sizeLine_eq]; have := List.length_filter_le p (xs.take i); rw [List.length_take] at this; omega, w6.put Dl (.lst (ys ++ [y])) h1, ds ++ [d], rfl, (r24.trans (r5.trans r6)).put hD h1, ⟨h1, _, upd_same, h3.app (.one dy)⟩, ?_⟩
      rw [filter_take p xs i _ hx, if_pos hp]
      exact f3.app (.cons hd .nil)
    | false =>
      rw [if_neg Bool.false_ne_true]
      refine ⟨w5, ds, rfl, r24.trans r5, hnp r5, ?_⟩
      rw [filter_take p xs i _ hx, hp, if_neg Bool.false_ne_true, List.append_nil]
      exact f3
  · have e : i = xs.length := by omega
    subst e
    rw [List.take_length] at f3
    refine .inl ⟨?_, q Dl ds w3 (r2.trans r3) (r2.free hD) f3 m3⟩
    have := hstop w3 r3.g
    rwa [List.length_map] at this
end
end U
end

section
set_option maxRecDepth 100000
set_option maxHeartbeats 4000000
/-! The layer of data, third part: statements, loops, calls, lists of one's own. -/
namespace U
open PySem PySem.Spec PyProof.Rows L2

/-! ### forgetting -/
inductive Le : List De → List De → Prop
  | nil : Le [] []
  | no {e : De} {Γ' Γ : List De} : Le Γ' Γ → Le (.no :: Γ') (e :: Γ)
  | same {e : De} {Γ' Γ : List De} : Le Γ' Γ → Le (e :: Γ') (e :: Γ)
theorem Le.refl : ∀ Γ : List De, Le Γ Γ
  | [] => .nil
  | _ :: Γ => .same (Le.refl Γ)
theorem Sl.weak {c : Option Addr} {w : Wo} : ∀ {σ : L2.St} {Γ' Γ : List De}, Le Γ' Γ → Sl c w σ Γ → Sl c w σ Γ'
  | _, _, _, .nil, h => h
  | _, _, _, .no l, .cons _ h => .cons trivial (Sl.weak l h)
  | _, _, _, .same l, .cons h1 h => .cons h1 (Sl.weak l h)

/-! ### lists of one's own -/
def De.notMl (a : Addr) : De → Prop
  | .ml b _ => b ≠ a
  | .md b _ => b ≠ a
  | _ => True
def Nm (a : Addr) : List De → Prop
  | [] => True
  | e :: Γ => e.notMl a ∧ Nm a Γ
theorem De.put {c : Option Addr} {w : Wo} {a : Addr} {o : HO} {x : Option V} {e : De} (hG : w.G a = none) (hn : e.notMl a) (h : e.ok c w x) : e.ok c (w.put a o hG) x := by
  cases e with
  | dat d => exact h
  | ml b ds =>
    obtain ⟨h1, h2, h3, xs, h4, h5⟩ := h
    refine ⟨h1, h2, h3, xs, ?_, h5⟩
    show upd w.H a o b = _
    rw [upd_ne hn]
    exact h4
  | md b ks =>
    obtain ⟨h1, h2, h3, h4⟩ := h
    refine ⟨h1, h2, h3, ?_⟩
    show upd w.H a o b = _
    rw [upd_ne hn]
    exact h4
  | raw v => exact h
  | no => exact h
theorem put_n {w : Wo} {a : Addr} {o : HO} (hG : w.G a = none) {b : Addr} (h : w.H b ≠ none) : (w.put a o hG).H b ≠ none := by
  show upd w.H a o b ≠ none
  by_cases e : b = a
  · subst e; rw [upd_same]; simp
  · rw [upd_ne e]; exact h
/-- the list at a, in slot i, is another one -/
theorem Sl.put {c : Option Addr} {w : Wo} {a : Addr} {ys : List V} {es : List PyData} (hG : w.G a = none) (hd : DaL w.G ys es) : ∀ {σ : L2.St} {Γ : List De} {i : Nat} {ds : List PyData}, Sl c w σ Γ → Γ[i]? = some (.ml a ds) → Nm a (Γ.set i .no) → Sl c (w.put a (.lst ys) hG) σ (Γ.set i (.ml a es))
  | _, _, i, ds, .nil _, h, _ => by simp at h
  | _, _, 0, ds, .cons (σ := σ) (Γ := Γ) h1 h2, h, hn => by
    simp at h
    subst h
    obtain ⟨q1, q2, _⟩ := h1
    refine .cons ⟨q1, q2, hG, ys, upd_same, hd⟩ ?_
    have go : ∀ {σ : L2.St} {Γ : List De}, Nm a Γ → Sl c w σ Γ → Sl c (w.put a (.lst ys) hG) σ Γ := by
      intro σ Γ hn h
      induction h with
      | nil h => exact .nil fun b e => put_n hG (h b e)
      | cons p _ ih => exact .cons (De.put hG hn.1 p) (ih hn.2)
    exact go hn.2 h2
  | _, _, i + 1, ds, .cons h1 h2, h, hn => .cons (De.put hG hn.1 h1) (Sl.put hG hd (i := i) (ds := ds) h2 (by simpa using h) hn.2)
/-- the list at a, in slot i, is data from now on -/
theorem De.frz {c : Option Addr} {w : Wo} {a : Addr} {o : HO} {x : Option V} {e : De} (hH : w.H a = some o) (hG : w.G a = none) (hn : e.notMl a) (h : e.ok c w x) : e.ok c (w.frz a o hH) x := by
  cases e with
  | dat d => obtain ⟨v, h1, h2⟩ := h; exact ⟨v, h1, da_mono (ext_new hG) h2⟩
  | ml b ds =>
    obtain ⟨h1, h2, h3, xs, h4, h5⟩ := h
    refine ⟨h1, h2, ?_, xs, h4, dal_mono (ext_new hG) h5⟩
    show upd w.G a o b = none
    rw [upd_ne hn]
    exact h3
  | md b ks =>
    obtain ⟨h1, h2, h3, h4⟩ := h
    refine ⟨h1, h2, ?_, h4⟩
    show upd w.G a o b = none
    rw [upd_ne hn]
    exact h3
  | raw v => exact h
  | no => exact h
theorem Sl.frz {c : Option Addr} {w : Wo} {a : Addr} {xs : List V} {ds : List PyData} (hH : w.H a = some (.lst xs)) (hG : w.G a = none) (hd : DaL w.G xs ds) : ∀ {σ : L2.St} {Γ : List De} {i : Nat} {es : List PyData}, Sl c w σ Γ → Γ[i]? = some (.ml a es) → Nm a (Γ.set i .no) → Sl c (w.frz a (.lst xs) hH) σ (Γ.set i (.dat (.list ds)))
  | _, _, i, es, .nil _, h, _ => by simp at h
  | _, _, 0, es, .cons (σ := σ) (Γ := Γ) h1 h2, h, hn => by
    simp at h
    subst h
    obtain ⟨q1, q2, _⟩ := h1
    refine .cons ⟨_, q1, .lst upd_same (dal_mono (ext_new hG) hd)⟩ ?_
    have go : ∀ {σ : L2.St} {Γ : List De}, Nm a Γ → Sl c w σ Γ → Sl c (w.frz a (.lst xs) hH) σ Γ := by
      intro σ Γ hn h
      induction h with
      | nil h => exact .nil fun b e => h b e
      | cons p _ ih => exact .cons (De.frz hH hG hn.1 p) (ih hn.2)
    exact go hn.2 h2
  | _, _, i + 1, es, .cons h1 h2, h, hn => .cons (De.frz hH hG hn.1 h1) (Sl.frz hH hG hd (i := i) (es := es) h2 (by simpa using h) hn.2)

/-! ### statements: k holds of the slots Γ at w -/
def On (c : Option Addr) (k : L2.St → Hp → Prop) (Γ : List De) (w : Wo) : Prop := ∀ σ, Sl c w σ Γ → k σ w.H
/-- what a block is to reach -/
def Nx (c : Option Addr) (w0 : Wo) (G0 : Hp) (Γ : List De) : L2.St → Hp → Prop := fun σ H => ∃ w', H = w'.H ∧ R c w0 w' ∧ Ext G0 w'.G ∧ Sl c w' σ Γ
/-- what a def is to hand back -/
def Rt (c : Option Addr) (w0 : Wo) (P : PyData → Prop) (Q : VK) : Prop := ∀ v w', R c w0 w' → D P v w' → Q v w'.H
section
variable {K : PySem.W.Frag} {c : Option Addr} {Γ Γ' : List De} {w w0 w' : Wo} {te ta tb tl : TE} {tt : TT} {tr : TA} {t u : TS} {E : Ends} {D1 D2 : PyData → Prop} {k : L2.St → Hp → Prop}
theorem on_weak (l : Le Γ' Γ) (h : On c k Γ' w) : On c k Γ w := fun σ s => h σ (s.weak l)
theorem on_nx (r : R c w0 w) {G0 : Hp} (e : Ext G0 w.G) (l : Le Γ' Γ) : On c (Nx c w0 G0 Γ') Γ w := fun σ s => ⟨w, rfl, r, e, s.weak l⟩
theorem on_seq (h : On c (t { E with nx := u E }) Γ w) : On c (tSeq t u E) Γ w := h
theorem on_next (h : On c E.nx Γ w) : On c (tNext E) Γ w := h
theorem on_set {j : Nat} (h : EvD c te Γ w D1) (q : ∀ d w1, R c w w1 → D1 d → On c E.nx (Γ.set j (.dat d)) w1) : On c (tAsg te (gName j) E) Γ w := fun σ s =>
  h w σ (R.refl _ _) s _ fun v w1 r ⟨d, h1, h2⟩ => q d w1 r h1 _ (Sl.set (x := some v) (e := .dat d) ⟨v, rfl, h2⟩ j (s.mono r))
theorem on_sete {j : Nat} {d : PyData} (h : EvE c te Γ w d) (q : ∀ w1, R c w w1 → On c E.nx (Γ.set j (.dat d)) w1) : On c (tAsg te (gName j) E) Γ w := on_set h fun e w1 r h1 => by rw [h1]; exact q w1 r
/-- to any target -/
theorem on_asg {g : TG} {js : List Nat} {d : PyData} (h : EvE c te Γ w d) (tg : Tg g js d Γ Γ') (q : ∀ w1, R c w w1 → On c E.nx Γ' w1) : On c (tAsg te g E) Γ w := fun σ s =>
  h w σ (R.refl _ _) s _ fun v w1 r ⟨e, h1, h2⟩ => by
    subst h1
    exact tg c w1 v σ _ h2 (s.mono r) fun σ' s' _ => q w1 r σ' s'
/-- a new list of one's own -/
theorem on_setN {j : Nat} {P : List PyData → Prop} (h : EvN c te Γ w P) (q : ∀ a ds w1, R c w w1 → w.H a = none → P ds → On c E.nx (Γ.set j (.ml a ds)) w1) : On c (tAsg te (gName j) E) Γ w := fun σ s =>
  h w σ (R.refl _ _) s _ fun a ds w1 r hp hP m => q a ds w1 r hp hP _ (Sl.set (x := some (.ref a)) (e := .ml a ds) ⟨rfl, fun hc => s.cok a hc hp, m⟩ j (s.mono r))
theorem on_drop (h : EvD c te Γ w D1) (q : ∀ w1, R c w w1 → On c E.nx Γ w1) : On c (tDrop te E) Γ w := fun σ s =>
  h w σ (R.refl _ _) s _ fun v w1 r _ => q w1 r _ (s.mono r)
theorem on_ret (r0 : R c w0 w) (h : EvD c te Γ w D1) (q : Rt c w0 D1 E.rt) : On c (tRet te E) Γ w := fun σ s =>
  h w σ (R.refl _ _) s _ fun v w1 r p => q v w1 (r0.trans r) p
/-- .. a list of one's own, made since w0 -/
theorem on_retM {i : Nat} {a : Addr} {ds : List PyData} (r0 : R c w0 w) (ha : w0.H a = none) (h : Γ[i]? = some (.ml a ds)) (q : Rt c w0 (fun d => d = .list ds) E.rt) : On c (tRet (tVar i) E) Γ w := fun σ s => by
  obtain ⟨x, h1, h2, _, h3, xs, h4, h5⟩ := s.get h
  subst h2
  exact ⟨.ref a, h1, q _ (w.frz a (.lst xs) h4) (r0.frz ha h4 h3) ⟨_, rfl, .lst upd_same (dal_mono (ext_new h3) h5)⟩⟩
theorem on_if {P : Bool → Prop} (h : EvT c tt Γ w P) (h1 : ∀ w1, R c w w1 → P true → On c (t E) Γ w1) (h2 : ∀ w1, R c w w1 → P false → On c (u E) Γ w1) : On c (tIfS tt t u E) Γ w := fun σ s =>
  h w σ (R.refl _ _) s _ fun b w1 r p => by
    cases b with
    | true => rw [if_pos rfl]; exact h1 w1 r p σ (s.mono r)
    | false => rw [if_neg Bool.false_ne_true]; exact h2 w1 r p σ (s.mono r)
theorem on_ife {b : Bool} (h : EvT c tt Γ w (fun e => e = b)) (h1 : ∀ w1, R c w w1 → b = true → On c (t E) Γ w1) (h2 : ∀ w1, R c w w1 → b = false → On c (u E) Γ w1) : On c (tIfS tt t u E) Γ w :=
  on_if h (fun w1 r e => h1 w1 r e.symm) fun w1 r e => h2 w1 r e.symm
/-- xs.append(e) of a list of one's own, made since w0 -/
theorem on_app {i : Nat} {a : Addr} {ds : List PyData} (r0 : R c w0 w) (ha : w0.H a = none) (hi : Γ[i]? = some (.ml a ds)) (hn : Nm a (Γ.set i .no)) (h : EvD c te Γ w D1) (hz : ds.length < 100000)
    (q : ∀ d w1, R c w0 w1 → Ext w.G w1.G → D1 d → On c E.nx (Γ.set i (.ml a (ds ++ [d]))) w1) : On c (tDrop (tBM K "list" rAppend (tVar i) (tCons te tNil)) E) Γ w := fun σ s => by
  obtain ⟨x, h1, h2, h3, h4⟩ := s.get hi
  subst h2
  obtain ⟨_, xs, h5, _⟩ := id h4
  refine ⟨.ref a, h1, .inl ⟨rfl, xs, SqL.of h5⟩, ?_⟩
  refine h w σ (R.refl _ _) s _ fun v w1 r ⟨d, hd, dv⟩ => ?_
  obtain ⟨m1, ys, m2, m3⟩ := h4.mono r h3
  refine ⟨a, ys, v, rfl, rfl, m2, by rw [m3.len, sizeLine_eq]; omega, ?_⟩
  exact q d (w1.put a (.lst (ys ++ [v])) m1) ((r0.trans r).put ha m1) r.g hd σ (Sl.put m1 (m3.app (.one dv)) (s.mono r) hi hn)
/-- xs.append(ys), ys another list of one's own: data from now on -/
theorem on_appM {i j : Nat} {a b : Addr} {ds es : List PyData} (r0 : R c w0 w) (ha : w0.H a = none) (hb : w0.H b = none) (hab : b ≠ a) (hi : Γ[i]? = some (.ml a ds)) (hj : Γ[j]? = some (.ml b es)) (hn : Nm a ((Γ.set j (.dat (.list es))).set i .no)) (hn2 : Nm b (Γ.set j .no)) (hij : i ≠ j) (hz : ds.length < 100000)
    (q : ∀ w1, R c w0 w1 → Ext w.G w1.G → On c E.nx ((Γ.set j (.dat (.list es))).set i (.ml a (ds ++ [.list es]))) w1) : On c (tDrop (tBM K "list" rAppend (tVar i) (tCons (tVar j) tNil)) E) Γ w := fun σ s => by
  obtain ⟨x, h1, h2, h3, h4⟩ := s.get hi
  subst h2
  obtain ⟨y, g1, g2, g3, g4, ys, g5, g6⟩ := s.get hj
  subst g2
  obtain ⟨m1, xs, m2, m3⟩ := id h4
  refine ⟨.ref a, h1, .inl ⟨rfl, xs, SqL.of m2⟩, .ref b, g1, a, xs, _, rfl, rfl, m2, by rw [m3.len, sizeLine_eq]; omega, ?_⟩
  have s2 := Sl.frz g5 g4 g6 s hj hn2
  have e2 : (w.frz b (.lst ys) g5).G a = none := by
    show upd w.G b _ a = none
    rw [upd_ne hab.symm]
    exact m1
  have d2 : DaL (w.frz b (.lst ys) g5).G (xs ++ [.ref b]) (ds ++ [.list es]) := (dal_mono (ext_new g4) m3).app (.one (.lst upd_same (dal_mono (ext_new g4) g6)))
  have hi2 : (Γ.set j (.dat (.list es)))[i]? = some (.ml a ds) := by
    rw [List.getElem?_set_ne hij.symm]
    exact hi
  exact q ((w.frz b (.lst ys) g5).put a (.lst (xs ++ [.ref b])) e2) ((r0.frz hb g5 g4).put ha e2) (ext_new g4) σ (Sl.put e2 d2 s2 hi2 hn)
/-- xs.extend(..) of a new list -/
theorem on_ext {i : Nat} {a : Addr} {ds : List PyData} {P : List PyData → Prop} (r0 : R c w0 w) (ha : w0.H a = none) (hi : Γ[i]? = some (.ml a ds)) (hn : Nm a (Γ.set i .no)) (h : EvN c te Γ w P) (hz : ∀ es, P es → ds.length + es.length ≤ 100000)
    (q : ∀ es w1, R c w0 w1 → Ext w.G w1.G → P es → On c E.nx (Γ.set i (.ml a (ds ++ es))) w1) : On c (tDrop (tBM K "list" rExtend (tVar i) (tCons te tNil)) E) Γ w := fun σ s => by
  obtain ⟨x, h1, h2, h3, h4⟩ := s.get hi
  subst h2
  obtain ⟨_, xs, h5, _⟩ := id h4
  refine ⟨.ref a, h1, .inl ⟨rfl, xs, SqL.of h5⟩, ?_⟩
  refine h w σ (R.refl _ _) s _ fun b es w1 r hb hP ⟨n1, zs, n2, n3⟩ => ?_
  obtain ⟨m1, ys, m2, m3⟩ := h4.mono r h3
  have := hz es hP
  refine ⟨a, b, ys, zs, rfl, rfl, m2, n2, by rw [m3.len, n3.len, sizeLine_eq]; omega, ?_⟩
  exact q es (w1.put a (.lst (ys ++ zs)) m1) ((r0.trans r).put ha m1) r.g hP σ (Sl.put m1 (m3.app n3) (s.mono r) hi hn)
/-- xs[j] = e of a list of one's own -/
theorem on_setI {i j : Nat} {a : Addr} {ds : List PyData} {d : PyData} (r0 : R c w0 w) (ha : w0.H a = none) (hi : Γ[i]? = some (.ml a ds)) (hn : Nm a (Γ.set i .no)) (h : EvE c te Γ w d) (hx : EvE c tb Γ w (.int (j : Int))) (hj : j < ds.length)
    (q : ∀ w1, R c w0 w1 → Ext w.G w1.G → On c E.nx (Γ.set i (.ml a (ds.set j d))) w1) : On c (tAsg te (gSub (tVar i) tb rSetL) E) Γ w := fun σ s =>
  h w σ (R.refl _ _) s _ fun v w1 r1 ⟨e, he, dv⟩ => by
    subst he
    obtain ⟨x, h1, h2, h3, h4⟩ := s.get hi
    subst h2
    refine ⟨.ref a, h1, ?_⟩
    refine hx w1 σ r1 (s.mono r1) _ fun y w2 r2 ⟨e, he, dy⟩ => ?_
    subst he
    have r := r1.trans r2
    obtain ⟨m1, ys, m2, m3⟩ := h4.mono r h3
    refine ⟨a, ys, (j : Int), j, rfl, dy.intV, m2, ixN_nat (by rw [m3.len]; exact hj), ?_⟩
    exact q (w2.put a (.lst (ys.set j v)) m1) ((r0.trans r).put ha m1) r.g σ (Sl.put m1 (m3.set (da_mono r2.g dv) j) (s.mono r) hi hn)
/-- xs[e] of a list of one's own -/
theorem ev_ixM {i j : Nat} {a : Addr} {ds : List PyData} {d : PyData} (hi : Γ[i]? = some (.ml a ds)) (hx : EvE c tb Γ w (.int (j : Int))) (hj : ds[j]? = some d) : EvE c (tOp (rIxL K) (tVar i) tb) Γ w d := fun w1 σ r1 s1 Q q => by
  obtain ⟨x, h1, h2, h3, h4⟩ := s1.get hi
  subst h2
  refine ⟨.ref a, h1, ?_⟩
  refine hx w1 σ r1 s1 _ fun y w2 r2 ⟨e, he, dy⟩ => ?_
  subst he
  obtain ⟨m1, ys, m2, m3⟩ := h4.mono r2 h3
  obtain ⟨v, hv, dv⟩ := m3.get hj
  exact ⟨a, ys, (j : Int), v, rfl, dy.intV, SqL.of m2, atI_nat hv, q v w2 r2 ⟨d, rfl, dv⟩⟩

/-! ### loops -/
theorem on_for {α S : Type} {wi : TI} {g : TG} {js : List Nat} (xs : List α) (enc : α → PyData) (hi : EvI c wi Γ w (xs.map enc)) (r0 : R c w0 w) (Γf : S → List De) (step : S → α → S) (Iv : Nat → S → Prop) (s0 : S) (hΓ : Le (Γf s0) Γ) (h0 : Iv 0 s0)
    (hv : ∀ i s x, xs[i]? = some x → Iv i s → Iv (i + 1) (step s x))
    (hs : ∀ i s x w' G0, xs[i]? = some x → Iv i s → s = (xs.take i).foldl step s0 → R c w0 w' → Ext w.G G0 → Ext G0 w'.G → ∃ Γ1, Tg g js (enc x) (Γf s) Γ1 ∧ On c (t { E with nx := Nx c w0 G0 (Γf (step s x)), ct := Nx c w0 G0 (Γf (step s x)), bk := E.nx }) Γ1 w')
    (hd : ∀ w', Iv xs.length (xs.foldl step s0) → R c w0 w' → Ext w.G w'.G → On c E.nx (Γf (xs.foldl step s0)) w') : On c (tFor wi g t E) Γ w := fun σ s1 => by
  refine hi w σ (R.refl _ _) s1 _ fun J w2 r2 ⟨hgo, hstop⟩ => ?_
  refine ⟨fun i m σ' H => m = xs.length - i ∧ i ≤ xs.length ∧ ∃ s w', s = (xs.take i).foldl step s0 ∧ Iv i s ∧ H = w'.H ∧ R c w0 w' ∧ Ext w2.G w'.G ∧ Sl c w' σ' (Γf s), ⟨xs.length, by simp, Nat.zero_le _, s0, w2, rfl, h0, rfl, r0.trans r2, Ext.refl _, (s1.mono r2).weak hΓ⟩, ?_⟩
  rintro i m σ' H ⟨rfl, hle, s, w', es, iv, rfl, r', e', sl⟩
  by_cases hlt : i < xs.length
  · have hx : xs[i]? = some xs[i] := List.getElem?_eq_getElem hlt
    obtain ⟨go, yld⟩ := hgo i (enc xs[i]) w' e' (by rw [List.getElem?_map, hx]; rfl)
    have iv2 := hv i s xs[i] hx iv
    have es2 : step s xs[i] = (xs.take (i + 1)).foldl step s0 := by
      rw [List.take_add_one, hx, List.foldl_append, ← es]
      rfl
    refine .inr ⟨go, Nx c w0 w2.G (Γf (step s xs[i])), fun σ2 H2 ⟨w3, e3, r3, x3, s3⟩ => ⟨xs.length - (i + 1), by omega, rfl, by omega, step s xs[i], w3, es2, iv2, e3, r3, x3, s3⟩, fun x H' hy => ?_⟩
    obtain ⟨w4, rfl, r4, dx⟩ := yld x H' hy
    have r4c : R c w' w4 := r4.weak
    obtain ⟨Γ1, tg, body⟩ := hs i s xs[i] w4 w2.G hx iv es (r'.trans r4c) r2.g (e'.trans r4.g)
    exact tg c w4 x σ' _ dx (sl.mono r4c) fun σ5 s5 _ => body σ5 s5
  · have e : i = xs.length := by omega
    subst e
    rw [List.take_length] at es
    subst es
    refine .inl ⟨?_, hd w' iv r' (r2.g.trans e') σ' sl⟩
    have := hstop w' e'
    rwa [List.length_map] at this
/-- while: the state s of the slots, a number that falls -/
theorem on_while {S : Type} (r0 : R c w0 w) (Γf : S → List De) (μ : S → Nat) (Iv : S → Prop) (b : S → Bool) (s0 : S) (hΓ : Le (Γf s0) Γ) (h0 : Iv s0)
    (ht : ∀ s w', Iv s → R c w0 w' → Ext w.G w'.G → EvT c tt (Γf s) w' (fun e => e = b s))
    (hs : ∀ s w', Iv s → b s = true → R c w0 w' → Ext w.G w'.G → ∃ s', Iv s' ∧ μ s' < μ s ∧ On c (t { E with nx := Nx c w0 w.G (Γf s'), ct := Nx c w0 w.G (Γf s'), bk := E.nx }) (Γf s) w')
    (hd : ∀ s w', Iv s → b s = false → R c w0 w' → Ext w.G w'.G → On c E.nx (Γf s) w') : On c (tWhile tt t E) Γ w := fun σ s1 => by
  refine ⟨fun m σ' H => ∃ s w', m = μ s ∧ Iv s ∧ H = w'.H ∧ R c w0 w' ∧ Ext w.G w'.G ∧ Sl c w' σ' (Γf s), ⟨_, s0, w, rfl, h0, rfl, r0, Ext.refl _, s1.weak hΓ⟩, ?_⟩
  rintro m σ' H ⟨s, w', rfl, iv, rfl, r', e', sl⟩
  refine ht s w' iv r' e' w' σ' (R.refl _ _) sl _ fun b' w3 r3 eb => ?_
  subst eb
  cases hb : b s with
  | true =>
    rw [if_pos rfl]
    obtain ⟨s', iv', lt, body⟩ := hs s w3 iv hb (r'.trans r3) (e'.trans r3.g)
    exact ⟨Nx c w0 w.G (Γf s'), fun σ2 H2 ⟨w4, e4, r4, x4, s4⟩ => ⟨μ s', lt, s', w4, rfl, iv', e4, r4, x4, s4⟩, body σ' (sl.mono r3)⟩
  | false =>
    rw [if_neg Bool.false_ne_true]
    exact hd s w3 iv hb (r'.trans r3) (e'.trans r3.g) σ' (sl.mono r3)
/-- comprehensions without a test, of plain items -/
theorem et_yes : EvT c tYes Γ w (fun e => e = true) := fun w1 σ r s Q q => q true w1 (R.refl _ _) rfl
theorem ev_lc {α : Type} {wi : TI} {g : TG} {vs js : List Nat} (xs : List α) (enc : α → PyData) (hi : EvI c wi Γ w (xs.map enc)) (hz : xs.length ≤ 100000) (hj : ∀ j ∈ js, j ∈ vs) (Γx : α → List De) (f : α → PyData)
    (tg : ∀ x ∈ xs, Tg g js (enc x) (wipeG Γ vs) (Γx x)) (he : ∀ x ∈ xs, EvE c te (Γx x) w (f x)) : EvN c (tLc wi g tYes te vs) Γ w (fun ds => ds = xs.map f) := by
  have := ev_lcP (te := te) xs enc hi hz hj Γx (fun _ => true) (fun x d => d = f x) tg (fun x _ => et_yes) fun x hx _ => he x hx
  refine this.imp fun ds h => ?_
  rw [h.eq, List.filter_eq_self.mpr fun _ _ => rfl]
theorem ev_lcT {α : Type} {wi : TI} {g : TG} {vs js : List Nat} (xs : List α) (enc : α → PyData) (hi : EvI c wi Γ w (xs.map enc)) (hz : xs.length ≤ 100000) (hj : ∀ j ∈ js, j ∈ vs) (Γx : α → List De) (p : α → Bool) (f : α → PyData)
    (tg : ∀ x ∈ xs, Tg g js (enc x) (wipeG Γ vs) (Γx x)) (ht : ∀ x ∈ xs, EvT c tt (Γx x) w (fun b => b = p x)) (he : ∀ x ∈ xs, p x = true → EvE c te (Γx x) w (f x)) : EvN c (tLc wi g tt te vs) Γ w (fun ds => ds = (xs.filter p).map f) := by
  have := ev_lcP (te := te) xs enc hi hz hj Γx p (fun x d => d = f x) tg ht he
  exact this.imp fun ds h => h.eq

/-! ### built-ins -/
theorem ev_len {ds : List PyData} (h : EvAE c tr Γ w [.list ds] ∨ EvAE c tr Γ w [.tuple ds]) : EvE c (tCB (fun xs H Q => ∃ p ys, xs = [.ref p] ∧ (SqL K H p ys ∨ SqT K H p ys) ∧ Q (.int ys.length) H) tr) Γ w (.int (ds.length : Int)) := fun w1 σ r s Q q => by
  rcases h with h | h
  · refine h w1 σ r s _ fun vs w2 r2 ⟨d, e, hd⟩ => ?_
    subst e
    cases hd with
    | cons h1 h2 =>
      cases h2
      obtain ⟨a, xs, rfl, hG, hl⟩ := h1.lstV
      refine ⟨a, xs, rfl, .inl (SqL.of (w2.ok _ _ hG)), q _ w2 r2 ⟨_, rfl, ?_⟩⟩
      rw [hl.len]
      exact .int _
  · refine h w1 σ r s _ fun vs w2 r2 ⟨d, e, hd⟩ => ?_
    subst e
    cases hd with
    | cons h1 h2 =>
      cases h2
      obtain ⟨a, xs, rfl, hG, hl⟩ := h1.tupV
      refine ⟨a, xs, rfl, .inr (SqT.of (w2.ok _ _ hG)), q _ w2 r2 ⟨_, rfl, ?_⟩⟩
      rw [hl.len]
      exact .int _
theorem ev_sumL {ns : List Int} (h : EvAE c tr Γ w [.list (ns.map .int)]) : EvE c (tCB (rSum K) tr) Γ w (.int ns.sum) := fun w1 σ r s Q q => h w1 σ r s _ fun vs w2 r2 ⟨d, e, hd⟩ => by
  subst e
  cases hd with
  | cons h1 h2 =>
    cases h2
    obtain ⟨a, xs, rfl, hG, hl⟩ := h1.lstV
    have e := hl.ints
    subst e
    exact ⟨a, ns, rfl, SqL.of (w2.ok _ _ hG), q _ w2 r2 ⟨_, rfl, .int _⟩⟩
theorem ev_all {bs : List Bool} (h : EvAE c tr Γ w [.list (bs.map .bool)]) : EvE c (tCB (rAll K) tr) Γ w (.bool (bs.all id)) := fun w1 σ r s Q q => h w1 σ r s _ fun vs w2 r2 ⟨d, e, hd⟩ => by
  subst e
  cases hd with
  | cons h1 h2 =>
    cases h2
    obtain ⟨a, xs, rfl, hG, hl⟩ := h1.lstV
    have e := hl.bls
    subst e
    exact ⟨a, bs, rfl, SqL.of (w2.ok _ _ hG), q _ w2 r2 ⟨_, rfl, .bl _⟩⟩
theorem ev_abs {i : Int} (h : EvAE c tr Γ w [.int i]) : EvE c (tCB (fun xs H Q => ∃ i, xs = [.int i] ∧ Q (.int (if i < 0 then -i else i)) H) tr) Γ w (.int (if i < 0 then -i else i)) := fun w1 σ r s Q q => h w1 σ r s _ fun vs w2 r2 ⟨d, e, hd⟩ => by
  subst e
  cases hd with
  | cons h1 h2 =>
    cases h2
    exact ⟨i, by rw [h1.intV], q _ w2 r2 ⟨_, rfl, .int _⟩⟩
theorem ev_intb {b : Bool} (h : EvAE c tr Γ w [.bool b]) : EvE c (tCB (fun xs H Q => (∃ i, xs = [.int i] ∧ Q (.int i) H) ∨ ∃ k, xs = [.bl k] ∧ Q (.int (if k then 1 else 0)) H) tr) Γ w (.int (if b then 1 else 0)) := fun w1 σ r s Q q => h w1 σ r s _ fun vs w2 r2 ⟨d, e, hd⟩ => by
  subst e
  cases hd with
  | cons h1 h2 =>
    cases h2
    exact .inr ⟨b, by rw [h1.blV], q _ w2 r2 ⟨_, rfl, .int _⟩⟩
/-- list(xs) -/
theorem ev_listOf {ds : List PyData} (h : EvAE c tr Γ w [.list ds]) : EvN c (tCB (fun xs H Q => ∃ p ys, xs = [.ref p] ∧ (SqL K H p ys ∨ SqT K H p ys) ∧ ∀ l, H l = none → Q (.ref l) (upd H l (.lst ys))) tr) Γ w (fun e => e = ds) := fun w1 σ r s Q q => h w1 σ r s _ fun vs w2 r2 ⟨d, e, hd⟩ => by
  subst e
  cases hd with
  | cons h1 h2 =>
    cases h2
    obtain ⟨a, xs, rfl, hG, hl⟩ := h1.lstV
    exact ⟨a, xs, rfl, .inl (SqL.of (w2.ok _ _ hG)), fun p hp => q p ds (w2.put p (.lst xs) (w2.out hp)) (r2.trans ((R.refl _ _).put hp (w2.out hp))) (r2.free hp) rfl ⟨w2.out hp, xs, upd_same, hl⟩⟩
/-- tuple(xs) of a list -/
theorem ev_tupOf {P : List PyData → Prop} (h : EvD c te Γ w (fun d => ∃ ds, d = .list ds ∧ P ds)) : EvD c (tThen te (kTup K)) Γ w (fun d => ∃ ds, d = .tuple ds ∧ P ds) := fun w1 σ r s Q q => h w1 σ r s _ fun v w2 r2 ⟨d, ⟨ds, e, hP⟩, hd⟩ => by
  subst e
  obtain ⟨a, xs, rfl, hG, hl⟩ := hd.lstV
  exact .inl ⟨a, xs, rfl, SqL.of (w2.ok _ _ hG), fun p hp => q _ (w2.new p (.tup xs)) (r2.trans (R.new _ hp)) ⟨_, ⟨ds, rfl, hP⟩, .tup upd_same (dal_mono (ext_new (w2.out hp)) hl)⟩⟩
theorem ev_tupOfe {ds : List PyData} (h : EvE c te Γ w (.list ds)) : EvE c (tThen te (kTup K)) Γ w (.tuple ds) :=
  EvD.imp (ev_tupOf (P := fun e => e = ds) (EvD.imp h fun d e => ⟨ds, e, rfl⟩)) fun d ⟨e, h1, h2⟩ => by rw [h1, h2]
/-- [x] * n -/
theorem ev_rep {ds : List PyData} {n : Nat} (ha : EvE c ta Γ w (.list ds)) (hb : EvE c tb Γ w (.int (n : Int))) (hz : ds.length * n ≤ 100000) (hn : n ≤ 100000) : EvN c (tOp rRep ta tb) Γ w (fun e => e = (List.replicate n ds).flatten) := fun w1 σ r1 s1 Q q =>
  ha w1 σ r1 s1 _ fun x w2 r2 ⟨d, p1, dx⟩ => hb w2 σ (r1.trans r2) (s1.mono r2) _ fun y w3 r3 ⟨e, p2, dy⟩ => by
    subst p1 p2
    obtain ⟨a, xs, rfl, hG, hl⟩ := dx.lstV
    refine ⟨a, (n : Int), xs, rfl, dy.intV, w3.ok _ _ (r3.g _ _ hG), by omega, by omega, ?_, fun p hp => ?_⟩
    · rw [hl.len, sizeLine_eq, Int.toNat_natCast]; omega
    · have hG3 := w3.out hp
      have rep : ∀ n : Nat, DaL w3.G (List.replicate n xs).flatten (List.replicate n ds).flatten := by
        intro n
        induction n with
        | zero => exact .nil
        | succ n ih =>
          rw [List.replicate_succ, List.replicate_succ, List.flatten_cons, List.flatten_cons]
          exact (dal_mono r3.g hl).app ih
      have rep' := rep n
      exact q p _ (w3.put p (.lst (List.replicate n xs).flatten) hG3) ((r2.trans r3).trans ((R.refl _ _).put hp hG3)) ((r2.trans r3).free hp) rfl ⟨hG3, _, upd_same, rep'⟩

/-! ### calls -/
/-- the promise of a def that reads data and hands back data -/
def spD (rel : List PyData → PyData → Prop) : Sp := fun vs H Q _ => ∃ (w : Wo) (ds : List PyData) (d : PyData), w.H = H ∧ DaL w.G vs ds ∧ rel ds d ∧ ∀ v w2, R none w w2 → Da w2.G v d → Q v w2.H
theorem ev_call {rel : List PyData → PyData → Prop} {X : XK} {ds : List PyData} {d : PyData} (ha : EvAE c tr Γ w ds) (hr : rel ds d) : EvE c (tCall (spD rel) [] X tr) Γ w d := fun w1 σ r s Q q => ha w1 σ r s _ fun vs w2 r2 ⟨e, he, hd⟩ => by
  subst he
  show spD rel (vs ++ []) w2.H Q X
  rw [List.append_nil]
  exact ⟨w2, e, d, rfl, hd, hr, fun v w3 r3 dv => q v w3 (r2.trans r3.weak) ⟨d, rfl, dv⟩⟩
/-- at a def's entry -/
theorem sl_start {w : Wo} : ∀ {vs : List V} {ds : List PyData} (n : Nat), DaL w.G vs ds → Sl none w (vs.map some ++ List.replicate n none) (ds.map De.dat ++ List.replicate n De.no)
  | _, _, 0, .nil => .nil fun _ h => by cases h
  | _, _, n + 1, .nil => .cons trivial (sl_start n .nil)
  | _, _, n, .cons h1 h2 => .cons ⟨_, rfl, h1⟩ (sl_start n h2)
theorem fn_start {N : List Str} {t : TS} {rel : List PyData → PyData → Prop} {vs : List V} {H : Hp} {Q : VK} {X : XK} (h : spD rel vs H Q X)
    (k : ∀ (w : Wo) ds d, rel ds d → Rt none w (fun e => e = d) Q → On none (t { nx := fun _ H' => Q .non H', rt := Q }) (ds.map De.dat ++ List.replicate (N.length - ds.length) De.no) w) : t { nx := fun _ H' => Q .non H', rt := Q } (L2.start N vs) H := by
  obtain ⟨w, ds, d, rfl, hd, hr, q⟩ := h
  unfold L2.start
  rw [hd.len]
  exact k w ds d hr (fun v w2 r2 ⟨e, h1, h2⟩ => q v w2 r2 (h1 ▸ h2)) _ (sl_start _ hd)
end
end U
end

section
set_option maxRecDepth 100000
set_option maxHeartbeats 4000000
/-! The layer of data, fourth part: isinstance, slices, written dicts, piles, defs. -/
namespace U
open PySem PySem.Spec PyProof.Rows L2
section
variable {K : PySem.W.Frag} {c : Option Addr} {Γ Γ' : List De} {w w0 w' : Wo} {te ta tb tl : TE} {tt : TT} {tr : TA} {t u : TS} {E : Ends} {D1 D2 : PyData → Prop} {k : L2.St → Hp → Prop}
/-! isinstance -/
def tyN : PyData → String
  | .none => "NoneType" | .bool _ => "bool" | .int _ => "int" | .str _ => "str" | .list _ => "list" | .tuple _ => "tuple" | .dict _ => "dict"
theorem da_ty {w : Wo} {v : V} {d : PyData} (h : Da w.G v d) : TyX K w.H v (.type (tyN d)) := by
  cases h with
  | non => exact .base .non
  | bl b => exact .base (.bl b)
  | int i => exact .base (.int i)
  | str x => exact .base (.str x)
  | lst h1 h2 => exact .base (.lst (w.ok _ _ h1))
  | tup h1 h2 => exact .base (.tup (w.ok _ _ h1))
theorem ev_isi {d : PyData} {T : String} {b : Bool} (h : EvE c te Γ w d) (hk : PySem.W.kitOne K (.type (tyN d)) (.type T) = some b) : EvE c (tCB (rIsi K) (tCons te (tCons (tC (.ty T)) tNil))) Γ w (.bool b) := fun w1 σ r s Q q => h w1 σ r s _ fun v w2 r2 ⟨e, he, hd⟩ => by
  subst he
  exact ⟨v, .ty T, .type (tyN e), .type T, b, rfl, .ty T, da_ty hd, hk, q _ w2 r2 ⟨_, rfl, .bl _⟩⟩
theorem kit_same {T : String} : PySem.W.kitOne K (.type T) (.type T) = some true := by
  unfold PySem.W.kitOne
  rw [if_pos (beq_self_eq_true _)]
/-! slices -/
theorem cut_from {xs : List V} {n : Nat} (h : n ≤ xs.length) : cutV xs (some (n : Int)) none = xs.drop n := by
  unfold cutV
  rw [HT.sIx_nat, HT.sIx_none, Nat.min_eq_left h]
  exact List.take_of_length_le (by rw [List.length_drop]; exact Nat.le_refl _)
theorem cut_to {xs : List V} {n : Nat} (h : n ≤ xs.length) : cutV xs none (some (n : Int)) = xs.take n := by
  unfold cutV
  rw [HT.sIx_nat, HT.sIx_none, Nat.min_eq_left h, List.drop_zero, Nat.sub_zero]
/-- t[n:] of a tuple -/
theorem ev_slT {ds : List PyData} {n : Nat} (h : EvE c te Γ w (.tuple ds)) (hx : EvE c tb Γ w (.int (n : Int))) (hn : n ≤ ds.length) : EvE c (tSl (rSlA K) te (tPart tb) tNoPart) Γ w (.tuple (ds.drop n)) := fun w1 σ r s Q q => h w1 σ r s _ fun v w2 r2 ⟨e, he, hd⟩ => by
  subst he
  refine hx w2 σ (r.trans r2) (s.mono r2) _ fun y w3 r3 ⟨e, he, dy⟩ => ?_
  subst he
  have hd3 := da_mono r3.g hd
  obtain ⟨a, xs, rfl, hG, hl⟩ := hd3.tupV
  have hn' : n ≤ xs.length := by rw [hl.len]; exact hn
  refine ⟨(n : Int), dy.intV, a, xs, rfl, SqT.of (w3.ok _ _ hG), fun ⟨e1, _⟩ => ?_, fun _ p hp => ?_⟩
  · rw [HT.sIx_nat, Nat.min_eq_left hn'] at e1
    subst e1
    exact q _ w3 (r2.trans r3) ⟨_, rfl, by rw [List.drop_zero]; exact hd3⟩
  · rw [cut_from hn']
    exact q _ (w3.new p (.tup (xs.drop n))) ((r2.trans r3).trans (R.new _ hp)) ⟨_, rfl, .tup upd_same (dal_mono (ext_new (w3.out hp)) (hl.drop n))⟩
/-- x[:n] of a list -/
theorem ev_slL {ds : List PyData} {n : Nat} (h : EvE c te Γ w (.list ds)) (hx : EvE c tb Γ w (.int (n : Int))) (hn : n ≤ ds.length) : EvN c (tSl (rSlL K) te tNoPart (tPart tb)) Γ w (fun e => e = ds.take n) := fun w1 σ r s Q q => h w1 σ r s _ fun v w2 r2 ⟨e, he, hd⟩ => by
  subst he
  refine hx w2 σ (r.trans r2) (s.mono r2) _ fun y w3 r3 ⟨e, he, dy⟩ => ?_
  subst he
  have hd3 := da_mono r3.g hd
  obtain ⟨a, xs, rfl, hG, hl⟩ := hd3.lstV
  have hn' : n ≤ xs.length := by rw [hl.len]; exact hn
  refine ⟨(n : Int), dy.intV, a, xs, rfl, SqL.of (w3.ok _ _ hG), fun p hp => ?_⟩
  rw [cut_to hn']
  exact q p _ (w3.put p (.lst (xs.take n)) (w3.out hp)) ((r2.trans r3).trans ((R.refl _ _).put hp (w3.out hp))) ((r2.trans r3).free hp) rfl ⟨w3.out hp, _, upd_same, hl.take n⟩
/-- list(range(n)) -/
theorem ev_listRg {n : Nat} (h : EvE c te Γ w (.int (n : Int))) (hn : n ≤ 100000) : EvN c (tLstRg (tRg1 te)) Γ w (fun e => e = (List.range n).map fun (i : Nat) => .int (i : Int)) := fun w1 σ r s Q q => h w1 σ r s _ fun v w2 r2 ⟨e, he, hd⟩ => by
  subst he
  refine ⟨(n : Int), hd.intV, RgOk.of_le (by omega) (by omega) (by omega) (by omega), fun p hp => ?_⟩
  refine q p _ (w2.put p (.lst (rgV 0 (n : Int))) (w2.out hp)) (r2.trans ((R.refl _ _).put hp (w2.out hp))) (r2.free hp) rfl ⟨w2.out hp, _, upd_same, ?_⟩
  have e : rgV 0 (n : Int) = ((List.range n).map fun (i : Nat) => ((i : Nat) : Int)).map V.int := by
    unfold rgV
    rw [Int.sub_zero, Int.toNat_natCast, List.map_map]
    exact List.map_congr_left fun i _ => by simp
  rw [e]
  have e2 : ((List.range n).map fun (i : Nat) => PyData.int (i : Int)) = ((List.range n).map fun (i : Nat) => ((i : Nat) : Int)).map PyData.int := by rw [List.map_map]; rfl
  rw [e2]
  generalize (List.range n).map (fun (i : Nat) => ((i : Nat) : Int)) = ns
  induction ns with
  | nil => exact .nil
  | cons x xs ih => exact .cons (.int x) ih
/-! values that are no data: a written dict -/
theorem ev_ref {v : V} : Ev c (tC v) Γ w (fun u _ => u = v) := fun w1 σ r s Q q => q v w1 (R.refl _ _) rfl
theorem ev_ninK {x : Str} {dW : Addr} {b : Bool} {D : Addr} (ha : EvE c ta Γ w (.str x)) (hb : ∃ r : Option Value, PySem.W.nsIn K dW x = some r ∧ b = !r.isSome) :
    EvE c (tOp (fun x y H Q => ∃ (z : Str) (r : Option Value), x = .str z ∧ y = .ref dW ∧ PySem.W.nsIn K dW z = some r ∧ Q (.bl (!r.isSome)) H) ta (tC (.ref dW))) Γ w (.bool b) := fun w1 σ r s Q q => ha w1 σ r s _ fun v w2 r2 ⟨e, he, hd⟩ => by
  subst he
  obtain ⟨r, h1, h2⟩ := hb
  exact ⟨x, r, hd.strV, rfl, h1, q _ w2 r2 ⟨_, rfl, by rw [h2]; exact .bl _⟩⟩
theorem ev_ixK {wd : World} {x : Str} {dW : Addr} {i : Int} (hk : KDct K wd dW x (.int i)) (ha : EvE c ta Γ w (.str x)) : EvE c (tOp (rIxD K wd) (tC (.ref dW)) ta) Γ w (.int i) := fun w1 σ r s Q q => ha w1 σ r s _ fun v w2 r2 ⟨e, he, hd⟩ => by
  subst he
  exact ⟨dW, x, .int i, rfl, hd.strV, hk, q _ w2 r2 ⟨_, rfl, .int _⟩⟩
/-! ends -/
theorem on_end {w0 : Wo} {Q : VK} (r : R c w0 w) (q : Rt c w0 (fun e => e = .none) Q) : On c (fun _ H' => Q .non H') Γ w := fun σ s => q .non w r ⟨_, rfl, .non⟩
theorem on_nil (h : On c E.nx Γ w) : On c (tNext E) Γ w := h

/-! ### piles -/
/-- the promise of a def that takes from a pile: data by pre, what it hands back is one of rel -/
def spP (pre : List PyData → Prop) (rel : List PyData → PyData → Prop) : Sp := fun vs H Q _ => ∃ (w : Wo) (a : Addr) (us : List V) (ds : List PyData), vs = .ref a :: us ∧ w.H = H ∧ PileOk a w ∧ DaL w.G us ds ∧ pre ds ∧ ∀ v w2, R (some a) w w2 → D (rel ds) v w2 → Q v w2.H
theorem ev_callP {pre : List PyData → Prop} {rel : List PyData → PyData → Prop} {X : XK} {i : Nat} {a : Addr} {ds : List PyData} (hp : PileOk a w) (hi : Γ[i]? = some (.raw (.ref a))) (ha : EvAE (some a) tr Γ w ds) (h : pre ds) : EvD (some a) (tCall (spP pre rel) [] X (tCons (tVar i) tr)) Γ w (rel ds) := fun w1 σ r s Q q => by
  obtain ⟨x, h1, h2⟩ := s.get hi
  have h2 : x = some (.ref a) := h2
  subst h2
  refine ⟨.ref a, h1, ?_⟩
  refine ha w1 σ r s _ fun vs w2 r2 ⟨e, he, hd⟩ => ?_
  subst he
  show spP pre rel ((.ref a :: vs) ++ []) w2.H Q X
  rw [List.append_nil]
  exact ⟨w2, a, vs, e, rfl, rfl, (r.trans r2).p a rfl hp, hd, h, fun v w3 r3 p => q v w3 (r2.trans r3) p⟩
/-- .. with data that are one of L -/
theorem ev_callPL {pre : List PyData → Prop} {rel : List PyData → PyData → Prop} {X : XK} {i : Nat} {a : Addr} {L : List PyData → Prop} {P : PyData → Prop} (hp : PileOk a w) (hi : Γ[i]? = some (.raw (.ref a))) (ha : EvA (some a) tr Γ w (DL L)) (h : ∀ ds, L ds → pre ds) (h2 : ∀ ds d, L ds → rel ds d → P d) : EvD (some a) (tCall (spP pre rel) [] X (tCons (tVar i) tr)) Γ w P := fun w1 σ r s Q q => by
  obtain ⟨x, h1, h3⟩ := s.get hi
  have h3 : x = some (.ref a) := h3
  subst h3
  refine ⟨.ref a, h1, ?_⟩
  refine ha w1 σ r s _ fun vs w2 r2 ⟨e, he, hd⟩ => ?_
  show spP pre rel ((.ref a :: vs) ++ []) w2.H Q X
  rw [List.append_nil]
  exact ⟨w2, a, vs, e, rfl, rfl, (r.trans r2).p a rfl hp, hd, h e he, fun v w3 r3 ⟨d, p1, p2⟩ => q v w3 (r2.trans r3) ⟨d, h2 e d he p1, p2⟩⟩
theorem sl_startP {a : Addr} {w : Wo} (hp : PileOk a w) {vs : List V} {ds : List PyData} (n : Nat) (h : DaL w.G vs ds) : Sl (some a) w ((V.ref a :: vs).map some ++ List.replicate n none) (.raw (.ref a) :: ds.map De.dat ++ List.replicate n De.no) := by
  refine .cons rfl ?_
  have base : ∀ n : Nat, Sl (some a) w (List.replicate n none) (List.replicate n De.no) := by
    intro n
    induction n with
    | zero => exact .nil fun b e => by obtain ⟨_, m, _, h⟩ := hp; rw [← Option.some.inj e, h]; simp
    | succ n ih => exact .cons trivial ih
  have go : ∀ {vs : List V} {ds : List PyData}, DaL w.G vs ds → Sl (some a) w (vs.map some ++ List.replicate n none) (ds.map De.dat ++ List.replicate n De.no) := by
    intro vs
    induction vs with
    | nil => intro ds h; cases h; exact base n
    | cons v vs ih => intro ds h; cases h with | cons h1 h2 => exact .cons ⟨_, rfl, h1⟩ (ih h2)
  exact go h
theorem fn_startP {N : List Str} {t : TS} {pre : List PyData → Prop} {rel : List PyData → PyData → Prop} {vs : List V} {H : Hp} {Q : VK} {X : XK} (h : spP pre rel vs H Q X)
    (k : ∀ (w : Wo) (a : Addr) ds, pre ds → PileOk a w → Rt (some a) w (rel ds) Q → On (some a) (t { nx := fun _ H' => Q .non H', rt := Q }) (.raw (.ref a) :: ds.map De.dat ++ List.replicate (N.length - (ds.length + 1)) De.no) w) : t { nx := fun _ H' => Q .non H', rt := Q } (L2.start N vs) H := by
  obtain ⟨w, a, us, ds, rfl, rfl, hp, hd, hr, q⟩ := h
  unfold L2.start
  rw [List.length_cons, hd.len]
  exact k w a ds hr hp (fun v w2 r2 p => q v w2 r2 p) _ (sl_startP hp _ hd)
/-- from here on the list at b, new since w0, is a pile -/
theorem Sl.own {b : Addr} : ∀ {σ : L2.St} {Γ : List De} {i : Nat} {ds : List PyData}, Sl c w σ Γ → Γ[i]? = some (.ml b ds) → Nm b (Γ.set i .no) → Sl (some b) w σ (Γ.set i (.raw (.ref b))) := by
  have go : ∀ {σ : L2.St} {Γ : List De}, w.H b ≠ none → Nm b Γ → Sl c w σ Γ → Sl (some b) w σ Γ := by
    intro σ Γ hb hn h
    induction h with
    | nil h => exact .nil fun a e => by rw [← Option.some.inj e]; exact hb
    | @cons x σ e Γ h1 h2 ih =>
      refine .cons ?_ (ih hn.2)
      cases e with
      | dat d => exact h1
      | ml a ds => exact ⟨h1.1, fun e => hn.1 (Option.some.inj e).symm, h1.2.2⟩
      | md a ds => exact ⟨h1.1, fun e => hn.1 (Option.some.inj e).symm, h1.2.2⟩
      | raw v => exact h1
      | no => trivial
  intro σ Γ i
  induction Γ generalizing σ i with
  | nil => intro ds s h; simp at h
  | cons e Γ ih =>
    intro ds s h hn
    cases s with
    | cons h1 h2 =>
      cases i with
      | zero =>
        simp at h
        subst h
        obtain ⟨q1, q2, q3, xs, q4, q5⟩ := h1
        exact .cons q1 (go (by rw [q4]; simp) hn.2 h2)
      | succ i =>
        have hb : w.H b ≠ none := by
          obtain ⟨x, _, _, _, _, xs, q4, _⟩ := Sl.get h2 (i := i) (e := .ml b ds) (by simpa using h)
          rw [q4]; simp
        have := go hb (Γ := [e]) ⟨hn.1, trivial⟩ (.cons h1 (.nil (Sl.cok h2)))
        cases this with
        | cons h3 _ => exact .cons h3 (ih h2 (by simpa using h) hn.2)
theorem on_own {b : Addr} {i : Nat} {ds : List PyData} (hi : Γ[i]? = some (.ml b ds)) (hn : Nm b (Γ.set i .no)) (q : On (some b) k (Γ.set i (.raw (.ref b))) w) : On c k Γ w := fun σ s => q σ (s.own hi hn)
/-- the pile itself -/
theorem on_ownP {b : Addr} {i : Nat} {n : Int} (h0 : 0 ≤ n) (hi : Γ[i]? = some (.ml b [.int n])) (hn : Nm b (Γ.set i .no)) (q : PileOk b w → On (some b) k (Γ.set i (.raw (.ref b))) w) : On c k Γ w := fun σ s => by
  obtain ⟨x, _, _, _, h1, xs, h2, h3⟩ := s.get hi
  have hp : PileOk b w := by
    cases h3 with
    | cons h4 h5 =>
      cases h5
      exact ⟨h1, n, h0, by rw [h2, h4.intV]⟩
  exact q hp σ (s.own hi hn)
theorem R.own {b : Addr} {w1 : Wo} (r : R c w0 w) (hb : w0.H b = none) (r2 : R (some b) w w1) : R c w0 w1 where
  g := r.g.trans r2.g
  h a o hc e := r2.h a o (fun z => by rw [Option.some.inj z] at hb; rw [hb] at e; cases e) (r.h a o hc e)
  n a e := r2.n a (r.n a e)
  f a h1 h2 := r2.f a (r.f a h1 h2) (r.n a h2)
  p a hc q := by
    have q1 := r.p a hc q
    obtain ⟨h1, n, h2, h3⟩ := q1
    have ne : w0.H a ≠ none := by obtain ⟨_, _, _, h⟩ := q; rw [h]; simp
    exact ⟨r2.f a h1 (by rw [h3]; simp), n, h2, r2.h a _ (fun z => ne (by rw [← Option.some.inj z]; exact hb)) h3⟩
theorem Rt.own {b : Addr} {P : PyData → Prop} {Q : VK} (q : Rt c w0 P Q) (r : R c w0 w) (hb : w0.H b = none) : Rt (some b) w P Q := fun v w' r2 p => q v w' (r.own hb r2) p
/-- back from the pile b to c -/
theorem Sl.back {b : Addr} (hc : ∀ a, c = some a → w.H a ≠ none ∧ Nm a Γ) : ∀ {σ : L2.St}, Sl (some b) w σ Γ → Sl c w σ Γ := by
  intro σ s
  induction s with
  | nil _ => exact .nil fun a e => (hc a e).1
  | @cons x σ e Γ h1 h2 ih =>
    refine .cons ?_ (ih fun a e => ⟨(hc a e).1, (hc a e).2.2⟩)
    cases e with
    | dat d => exact h1
    | ml a ds => exact ⟨h1.1, fun e => (hc a e).2.1 rfl, h1.2.2⟩
    | md a ds => exact ⟨h1.1, fun e => (hc a e).2.1 rfl, h1.2.2⟩
    | raw v => exact h1
    | no => trivial
theorem on_nxOwn {b : Addr} {w1 : Wo} (r : R c w0 w1) (hb : w0.H b = none) (r2 : R (some b) w1 w) {G0 : Hp} (e : Ext G0 w.G) (l : Le Γ' Γ) (hc : ∀ a, c = some a → w0.H a ≠ none ∧ Nm a Γ') : On (some b) (Nx c w0 G0 Γ') Γ w := fun σ s =>
  ⟨w, rfl, r.own hb r2, e, Sl.back (fun a e => ⟨(r.own hb r2).n a (hc a e).1, (hc a e).2⟩) (s.weak l)⟩
end

/-! ### defs -/
section
variable {P : Program} {wd : World} {K : PySem.W.Frag} {mg : Str → Option Value} {base : Heap}
/-- a def of the text, by its name -/
structure DefT (K : PySem.W.Frag) (mg : Str → Option Value) (x : Str) (st : Stmt) (ps : List Str) : Prop where
  ex : ∃ (f : Addr) (fd : FuncData), L2.Fun K x x st f fd ∧ mg x = some (.ref f) ∧ Binds K fd ps []
theorem cal_of {x : Str} {st : Stmt} {N ps : List Str} {k : Nat} {sp : Sp} (d : DefT K mg x st ps) (S : FnScope N ps (defScope st)) (len : ∀ vs H Q E, sp vs H Q E → vs.length = ps.length)
    (body : ∀ (f : Addr) (cdv : Value) (A : Around) (outer : List Env) (s : Shared) (H : Hp) (vs : List V) (Q : VK) (E : XK), Room k (A.deeper (envOfC x (defScope st) s.heap.objs.size f cdv)) → sp vs H Q E →
      ∃ t, PSs (cxOf L2.CX0 P wd K mg base N x (defScope st) f cdv A outer s H E).nox (defBody st) t ∧ t { nx := fun _ H' => Q .non H', rt := Q } (L2.start N vs) H) : C8.Cal P wd K mg base (k + 1) x sp [] := by
  obtain ⟨f, fd, F, m, b⟩ := d.ex
  exact ⟨⟨f, fd, ps, [], F.ok S len fun cdv A outer s H vs Q E hr h => body f cdv A outer s H vs Q E hr h, m, F.kp, b, .nil⟩⟩
theorem cal_D {x : Str} {st : Stmt} {N ps : List Str} {k : Nat} {rel : List PyData → PyData → Prop} (d : DefT K mg x st ps) (S : FnScope N ps (defScope st)) (len : ∀ ds d, rel ds d → ds.length = ps.length)
    (body : ∀ (f : Addr) (cdv : Value) (A : Around) (outer : List Env) (s : Shared) (H : Hp) (E : XK), Room k (A.deeper (envOfC x (defScope st) s.heap.objs.size f cdv)) →
      ∃ t, PSs (cxOf L2.CX0 P wd K mg base N x (defScope st) f cdv A outer s H E).nox (defBody st) t ∧
        ∀ (w : Wo) (Q : VK) ds d, rel ds d → Rt none w (fun e => e = d) Q → On none (t { nx := fun _ H' => Q .non H', rt := Q }) (ds.map De.dat ++ List.replicate (N.length - ds.length) De.no) w) : C8.Cal P wd K mg base (k + 1) x (spD rel) [] :=
  cal_of d S (fun vs H Q E ⟨w, ds, e, h1, h2, h3, _⟩ => by rw [h2.len]; exact len ds e h3) fun f cdv A outer s H vs Q E hr h => by
    obtain ⟨t, ht, on⟩ := body f cdv A outer s H E hr
    exact ⟨t, ht, fn_start h fun w ds d hrel rt => on w Q ds d hrel rt⟩
theorem cal_P {x : Str} {st : Stmt} {N ps : List Str} {k : Nat} {pre : List PyData → Prop} {rel : List PyData → PyData → Prop} (d : DefT K mg x st ps) (S : FnScope N ps (defScope st)) (len : ∀ ds, pre ds → ds.length + 1 = ps.length)
    (body : ∀ (f : Addr) (cdv : Value) (A : Around) (outer : List Env) (s : Shared) (H : Hp) (E : XK), Room k (A.deeper (envOfC x (defScope st) s.heap.objs.size f cdv)) →
      ∃ t, PSs (cxOf L2.CX0 P wd K mg base N x (defScope st) f cdv A outer s H E).nox (defBody st) t ∧
        ∀ (w : Wo) (a : Addr) (Q : VK) ds, pre ds → PileOk a w → Rt (some a) w (rel ds) Q → On (some a) (t { nx := fun _ H' => Q .non H', rt := Q }) (.raw (.ref a) :: ds.map De.dat ++ List.replicate (N.length - (ds.length + 1)) De.no) w) : C8.Cal P wd K mg base (k + 1) x (spP pre rel) [] :=
  cal_of d S (fun vs H Q E ⟨w, a, us, ds, h0, h1, _, h2, h3, _⟩ => by rw [h0, List.length_cons, h2.len]; exact len ds h3) fun f cdv A outer s H vs Q E hr h => by
    obtain ⟨t, ht, on⟩ := body f cdv A outer s H E hr
    exact ⟨t, ht, fn_startP h fun w a ds hrel hp rt => on w a Q ds hrel hp rt⟩
/-- nothing is asked -/
theorem cal_no {x : Str} {st : Stmt} {N ps : List Str} {k : Nat} {sp : Sp} (d : DefT K mg x st ps) (S : FnScope N ps (defScope st)) (h : ∀ vs H Q E, sp vs H Q E → False) : C8.Cal P wd K mg base (k + 1) x sp [] :=
  cal_of d S (fun vs H Q E q => (h vs H Q E q).elim) fun f cdv A outer s H vs Q E hr q => (h vs H Q E q).elim
theorem cal_imp {x : Str} {k : Nat} {sp sp' : Sp} (c : C8.Cal P wd K mg base k x sp []) (h : ∀ vs H Q E, sp' vs H Q E → sp vs H Q E) : C8.Cal P wd K mg base k x sp' [] := by
  obtain ⟨f, fd, ps, ds, F, m, kp, b, v⟩ := c.ex
  exact ⟨⟨f, fd, ps, ds, F.imp h, m, kp, b, v⟩⟩
end
end U
end

section
set_option maxRecDepth 100000
set_option maxHeartbeats 4000000
/-! Rules of the machine that the law wants besides: enumerate of a tuple, the sum of a tuple, < of tuples of ints and tuples, sorted of such. -/
namespace HT2
open PySem PyProof.Rows

/-! ### < of data made of ints and tuples -/
mutual
def ltD : PyData → PyData → Bool
  | .int a, .int b => decide (a < b)
  | .tuple xs, .tuple ys => ltDs xs ys
  | _, _ => false
def ltDs : List PyData → List PyData → Bool
  | [], [] => false
  | [], _ :: _ => true
  | _ :: _, [] => false
  | x :: xs, y :: ys => if PyData.eqv x y = true then ltDs xs ys else ltD x y
end
/-! they may be compared -/
mutual
inductive Cm : PyData → PyData → Prop
  | int (a b : Int) : Cm (.int a) (.int b)
  | tup {xs ys : List PyData} : Cms xs ys → Cm (.tuple xs) (.tuple ys)
inductive Cms : List PyData → List PyData → Prop
  | nilL (ys : List PyData) : Cms [] ys
  | nilR (xs : List PyData) : Cms xs []
  | cons {x y : PyData} {xs ys : List PyData} : (PyData.eqv x y = true → Cms xs ys) → (PyData.eqv x y = false → Cm x y) → Cms (x :: xs) (y :: ys)
end
inductive LtW (A : Around) (s : Shared) : List Value → List Value → Bool → Prop
  | nil : LtW A s [] [] false
  | left {y : Value} {ys : List Value} : LtW A s [] (y :: ys) true
  | right {x : Value} {xs : List Value} : LtW A s (x :: xs) [] false
  | eq {x y : Value} {xs ys : List Value} {b : Bool} : SeqAt.EqAt A s x y true → LtW A s xs ys b → LtW A s (x :: xs) (y :: ys) b
  | ne {x y : Value} {xs ys : List Value} {b : Bool} : SeqAt.EqAt A s x y false → (∀ (prog : Program) (w : World) (E : Value → Shared → Prop) (Q : Value → Shared → Prop), Q (.bool b) s → wpAny (model prog w) A (richCompare .Lt x y) Q E s) → LtW A s (x :: xs) (y :: ys) b
section
open PySem.SeqAt
open PySem.AutoSeq1 (wpAny_loadPart')
open PySem.MeetsSeq PySem.MeetsSeq2 PySem.MeetsSeq3
theorem tuple_lt_W (l b : Addr) (items items2 : Array Value) (n n2 : Nat) (dd dd2 : Option Addr) (sl sl2 : Array (Option Value)) :
    Meets (Builtin.«tuple.__lt__» ⟨[.ref l, .ref b], []⟩)
      (fun A R s => s.heap.get? l = some { cls := .type "tuple", dict := dd, data := .seq items n, slots := sl } ∧ s.heap.get? b = some { cls := .type "tuple", dict := dd2, data := .seq items2 n2, slots := sl2 } ∧
        ∃ r, LtW A.in1 s items.toList items2.toList r ∧ R (.ok (.ret (.bool r))) s) :=
  .of_wp fun prog w A R s h => by
    obtain ⟨hp, g, d, tk, os⟩ := s; obtain ⟨hl, hb, r, hw, h⟩ := h
    have f2 := AutoSeq1.sub_tuple_tuple
    have z1 : items.size = items.toList.length := by simp
    have z2 : items2.size = items2.toList.length := by simp
    wp_walk using wpAny_loadPart' hl, wpAny_loadPart' hb, wpAny_forIn_list _ (fun rest b s' => b.1 = none ∧ s' = ⟨hp, g, d, tk, os⟩ ∧ ∃ (vs ws : List Value), rest = vs.zip ws ∧
      LtW A.in1 ⟨hp, g, d, tk, os⟩ vs ws r ∧ vs.length + items2.size = ws.length + items.size) _
    case turn =>
      rintro ⟨y, x⟩ rest b s' ⟨hb', rfl, vs, ws, hz, hlt, hlen⟩
      cases hlt with
      | nil => rw [List.zip_nil_left] at hz; cases hz
      | left => rw [List.zip_nil_left] at hz; cases hz
      | right => rw [List.zip_nil_right] at hz; cases hz
      | eq he hr =>
        rw [List.zip_cons_cons] at hz
        injection hz with hyx hrest
        injection hyx with hy hx
        subst hy hx
        simp only [List.length_cons] at hlen
        refine wpAny_bind (he prog w _ _ ?_)
        wp_walk
        exact ⟨rfl, rfl, _, _, hrest, hr, by omega⟩
      | ne he hr =>
        rw [List.zip_cons_cons] at hz
        injection hz with hyx hrest
        injection hyx with hy hx
        subst hy hx
        refine wpAny_bind (he prog w _ _ ?_)
        have hri := hr prog w
        wp_walk using hri
        exact ⟨_, rfl, by simpa using h⟩
    case fin =>
      rintro ⟨b1, b2⟩ s' ⟨hb', rfl, vs, ws, hz, hlt, hlen⟩
      simp only at hb'
      subst hb'
      have hv : r = decide (items.size < items2.size) := by
        cases hlt with
        | nil => simp only [List.length_nil] at hlen; exact (decide_eq_false (by omega)).symm
        | left => simp only [List.length_nil, List.length_cons] at hlen; exact (decide_eq_true (by omega)).symm
        | right => simp only [List.length_nil, List.length_cons] at hlen; exact (decide_eq_false (by omega)).symm
        | eq _ _ => rw [List.zip_cons_cons] at hz; cases hz
        | ne _ _ => rw [List.zip_cons_cons] at hz; cases hz
      rw [hv] at h
      wp_walk
      exact ⟨_, rfl, by simpa [Builtin.Tuple.tupleCompareSizes] using h⟩
    case h =>
      exact ⟨rfl, rfl, items.toList, items2.toList, rfl, hw, by simp; omega⟩
end
def RcLt (A : Around) (s : Shared) (u v : Value) (b : Bool) : Prop := ∀ (prog : Program) (w : World) (E : Value → Shared → Prop) (Q : Value → Shared → Prop), Q (.bool b) s → wpAny (model prog w) A (richCompare .Lt u v) Q E s
mutual
theorem lt_data : ∀ (d e : PyData) (A : Around) (s : Shared) (u v : Value) (as bs : List Addr), Reads s.heap u d as → Reads s.heap v e bs → d.canLay0 = true → e.canLay0 = true → A.units + d.depth < cLine → Cm d e → RcLt A s u v (ltD d e)
  | .int a, _, A, s, _, _, _, _, ra, rb, _, _, _, hc => by
    cases hc with
    | int a b =>
      cases ra
      cases rb
      intro prog w E Q q
      rename_i t u
      exact (PyProof.Rows.lt_int (by simpa [ltD] using q) : wpAny (model prog w) A (compareOp .Lt (.int a t) (.int b u)) Q E s)
  | .tuple xs, _, A, s, _, _, _, _, ra, rb, ha, hb, hu, hc => by
    cases hc with
    | @tup xs ys hcs =>
      cases ra with
      | @tuple a o vs n _ as ho hco hd hr =>
        cases rb with
        | @tuple b o2 ws n2 _ bs ho2 hco2 hd2 hr2 =>
          obtain ⟨cls, dd, data, sl⟩ := o
          obtain ⟨cls2, dd2, data2, sl2⟩ := o2
          simp only at hco hd hco2 hd2
          subst hco hd hco2 hd2
          intro prog w E Q q
          have hdep : A.units + 1 + PyData.depthAll xs < cLine := by
            simp only [PyData.depth] at hu
            omega
          have hw := lt_dataAll xs ys A.in1 s vs.toList ws.toList _ _ hr hr2 (by simpa [PyData.canLay0] using ha) (by simpa [PyData.canLay0] using hb) (by show A.units + 1 + _ < _; exact hdep) hcs
          have hu0 : A.units < cLine := by omega
          refine richCompare_meets_room (op := .Lt) ⟨_, ho, rfl⟩ ⟨_, ho2, rfl⟩ PySem.F.slot_tuple_lt PySem.F.entry_tuple_lt (PySem.F.args_tuple_lt_2 _ _) (tuple_lt_W a b vs ws n n2 dd dd2 sl sl2)
            ⟨ho, ho2, _, hw, (fun x => nomatch x), ?_⟩ hu0
          simpa [ltD] using q
  | .none, _, _, _, _, _, _, _, _, _, _, _, _, hc => by cases hc
  | .bool _, _, _, _, _, _, _, _, _, _, _, _, _, hc => by cases hc
  | .str _, _, _, _, _, _, _, _, _, _, _, _, _, hc => by cases hc
  | .list _, _, _, _, _, _, _, _, _, _, _, _, _, hc => by cases hc
  | .dict _, _, _, _, _, _, _, _, _, _, _, _, _, hc => by cases hc
theorem lt_dataAll : ∀ (xs ys : List PyData) (A : Around) (s : Shared) (vs ws : List Value) (as bs : List Addr), ReadsAll s.heap vs xs as → ReadsAll s.heap ws ys bs → PyData.canLayAll0 xs = true → PyData.canLayAll0 ys = true → A.units + PyData.depthAll xs < cLine → Cms xs ys → LtW A s vs ws (ltDs xs ys)
  | [], [], _, _, _, _, _, _, ra, rb, _, _, _, _ => by
    cases ra; cases rb
    exact .nil
  | [], _ :: _, _, _, _, _, _, _, ra, rb, _, _, _, _ => by
    cases ra; cases rb
    exact .left
  | _ :: _, [], _, _, _, _, _, _, ra, rb, _, _, _, _ => by
    cases ra; cases rb
    exact .right
  | x :: xs, y :: ys, A, s, _, _, _, _, ra, rb, ha, hb, hu, hc => by
    cases ra with
    | cons r1 r2 =>
      cases rb with
      | cons q1 q2 =>
        cases hc with
        | cons c1 c2 =>
          simp only [PyData.canLayAll0, Bool.and_eq_true] at ha hb
          simp only [PyData.depthAll] at hu
          have he := SeqAt.eqAt_reads x y A s _ _ _ _ r1 q1 ha.1 hb.1 (by omega)
          unfold ltDs
          cases e : PyData.eqv x y with
          | true =>
            rw [e] at he
            rw [if_pos rfl]
            exact .eq he (lt_dataAll xs ys A s _ _ _ _ r2 q2 ha.2 hb.2 (by omega) (c1 e))
          | false =>
            rw [e] at he
            rw [if_neg Bool.false_ne_true]
            exact .ne he (lt_data x y A s _ _ _ _ r1 q1 ha.1 hb.1 (by omega) (c2 e))
end
end HT2
end

section
set_option maxRecDepth 100000
set_option maxHeartbeats 4000000
/-! Rules over the layer: < of nested tuples, sorted of trees, enumerate of a tuple, the sum of a tuple. -/
namespace U
open PySem PySem.Spec PyProof.Rows L2 HT2

/-! ### trees as data -/
def tD : KM.T → PyData
  | .n0 r => .tuple [.int (r : Int), .tuple []]
  | .n1 r a => .tuple [.int (r : Int), .tuple [tD a]]
  | .n2 r a b => .tuple [.int (r : Int), .tuple [tD a, tD b]]
theorem tD_mk (r : Nat) : ∀ (l : List KM.T), l.length ≤ 2 → tD (KM.T.mk r l) = .tuple [.int (r : Int), .tuple (l.map tD)]
  | [], _ => rfl
  | [a], _ => rfl
  | [a, b], _ => rfl
  | _ :: _ :: _ :: _, h => by simp at h
theorem tD_eq (t : KM.T) : tD t = .tuple [.int (t.r : Int), .tuple (t.bs.map tD)] := by
  cases t <;> rfl
theorem int_eqv (a b : Int) : PyData.eqv (.int a) (.int b) = decide (a = b) := by
  simp only [PyData.eqv]
  exact Bool.beq_eq_decide_eq _ _
theorem eqv_T (t : KM.T) : ∀ u : KM.T, PyData.eqv (tD t) (tD u) = decide (t = u) := by
  induction t with
  | n0 r =>
    intro u
    cases u with
    | n0 s => by_cases e : r = s <;> simp [tD, PyData.eqv, PyData.eqvAll, e]; omega
    | n1 s b => simp [tD, PyData.eqv, PyData.eqvAll]
    | n2 s b c => simp [tD, PyData.eqv, PyData.eqvAll]
  | n1 r a ih =>
    intro u
    cases u with
    | n0 s => simp [tD, PyData.eqv, PyData.eqvAll]
    | n1 s b =>
      by_cases e : r = s
      · subst e; simp [tD, PyData.eqv, PyData.eqvAll, ih b]
      · simp [tD, PyData.eqv, PyData.eqvAll, e]; omega
    | n2 s b c => simp [tD, PyData.eqv, PyData.eqvAll]
  | n2 r a a' ih ih' =>
    intro u
    cases u with
    | n0 s => simp [tD, PyData.eqv, PyData.eqvAll]
    | n1 s b => simp [tD, PyData.eqv, PyData.eqvAll]
    | n2 s b c =>
      by_cases e : r = s
      · subst e
        by_cases e2 : a = b
        · subst e2; simp [tD, PyData.eqv, PyData.eqvAll, ih, ih']
        · simp [tD, PyData.eqv, PyData.eqvAll, ih, ih', e2]
      · simp [tD, PyData.eqv, PyData.eqvAll, e]; omega
theorem ltD_T (t : KM.T) : ∀ u : KM.T, ltD (tD t) (tD u) = KM.T.lt t u := by
  have ie : ∀ a b : Nat, PyData.eqv (.int (a : Int)) (.int (b : Int)) = decide (a = b) := fun a b => by
    rw [int_eqv]
    by_cases e : a = b
    · subst e; simp
    · rw [decide_eq_false e, decide_eq_false (by omega)]
  have il : ∀ a b : Nat, ltD (.int (a : Int)) (.int (b : Int)) = decide (a < b) := fun a b => by
    unfold ltD
    by_cases e : a < b
    · rw [decide_eq_true e, decide_eq_true (by omega)]
    · rw [decide_eq_false e, decide_eq_false (by omega)]
  induction t with
  | n0 r =>
    intro u
    cases u with
    | n0 s =>
      simp only [tD, KM.T.lt, ltD, ltDs, ie]
      by_cases e : r = s
      · subst e; simp [PyData.eqv, PyData.eqvAll, ltDs]
      · simp [e, il]
    | n1 s b =>
      simp only [tD, KM.T.lt, ltD, ltDs, ie]
      by_cases e : r = s
      · subst e; simp [PyData.eqv, PyData.eqvAll, ltDs]
      · simp [e, il]
    | n2 s b c =>
      simp only [tD, KM.T.lt, ltD, ltDs, ie]
      by_cases e : r = s
      · subst e; simp [PyData.eqv, PyData.eqvAll, ltDs]
      · simp [e, il]
  | n1 r a ih =>
    intro u
    cases u with
    | n0 s =>
      simp only [tD, KM.T.lt, ltD, ltDs, ie]
      by_cases e : r = s
      · subst e; simp [PyData.eqv, PyData.eqvAll, ltDs]
      · simp [e, il]
    | n1 s b =>
      simp only [tD, KM.T.lt, ltD, ltDs, ie]
      by_cases e : r = s
      · subst e
        by_cases e2 : a = b
        · subst e2; simp [PyData.eqv, PyData.eqvAll, ltDs, eqv_T]
        · simp [PyData.eqv, PyData.eqvAll, ltDs, eqv_T, e2, ih]
      · simp [e, il]
    | n2 s b c =>
      simp only [tD, KM.T.lt, ltD, ltDs, ie]
      by_cases e : r = s
      · subst e
        by_cases e2 : a = b
        · subst e2; simp [PyData.eqv, PyData.eqvAll, ltDs, eqv_T]
        · simp [PyData.eqv, PyData.eqvAll, ltDs, eqv_T, e2, ih]
      · simp [e, il]
  | n2 r a a' ih ih' =>
    intro u
    cases u with
    | n0 s =>
      simp only [tD, KM.T.lt, ltD, ltDs, ie]
      by_cases e : r = s
      · subst e; simp [PyData.eqv, PyData.eqvAll, ltDs]
      · simp [e, il]
    | n1 s b =>
      simp only [tD, KM.T.lt, ltD, ltDs, ie]
      by_cases e : r = s
      · subst e
        by_cases e2 : a = b
        · subst e2; simp [PyData.eqv, PyData.eqvAll, ltDs, eqv_T]
        · simp [PyData.eqv, PyData.eqvAll, ltDs, eqv_T, e2, ih]
      · simp [e, il]
    | n2 s b c =>
      simp only [tD, KM.T.lt, ltD, ltDs, ie]
      by_cases e : r = s
      · subst e
        by_cases e2 : a = b
        · subst e2
          by_cases e3 : a' = c
          · subst e3; simp [PyData.eqv, PyData.eqvAll, ltDs, eqv_T]
          · simp [PyData.eqv, PyData.eqvAll, ltDs, eqv_T, e3, ih']
        · simp [PyData.eqv, PyData.eqvAll, ltDs, eqv_T, e2, ih]
      · simp [e, il]
theorem cm_T (t : KM.T) : ∀ u : KM.T, Cm (tD t) (tD u) := by
  induction t with
  | n0 r =>
    intro u
    rw [tD_eq u]
    exact .tup (.cons (fun _ => .cons (fun _ => .nilL _) fun _ => .tup (.nilL _)) fun _ => .int _ _)
  | n1 r a ih =>
    intro u
    cases u with
    | n0 s => exact .tup (.cons (fun _ => .cons (fun _ => .nilL _) fun _ => .tup (.nilR _)) fun _ => .int _ _)
    | n1 s b => exact .tup (.cons (fun _ => .cons (fun _ => .nilL _) fun _ => .tup (.cons (fun _ => .nilL _) fun _ => ih b)) fun _ => .int _ _)
    | n2 s b c => exact .tup (.cons (fun _ => .cons (fun _ => .nilL _) fun _ => .tup (.cons (fun _ => .nilL _) fun _ => ih b)) fun _ => .int _ _)
  | n2 r a a' ih ih' =>
    intro u
    cases u with
    | n0 s => exact .tup (.cons (fun _ => .cons (fun _ => .nilL _) fun _ => .tup (.nilR _)) fun _ => .int _ _)
    | n1 s b => exact .tup (.cons (fun _ => .cons (fun _ => .nilL _) fun _ => .tup (.cons (fun _ => .nilR _) fun _ => ih b)) fun _ => .int _ _)
    | n2 s b c => exact .tup (.cons (fun _ => .cons (fun _ => .nilL _) fun _ => .tup (.cons (fun _ => .cons (fun _ => .nilL _) fun _ => ih' c) fun _ => ih b)) fun _ => .int _ _)
theorem lay_T (t : KM.T) : (tD t).canLay0 = true := by
  induction t <;> simp_all [tD, PyData.canLay0, PyData.canLayAll0]
theorem depth_T (t : KM.T) : (tD t).depth ≤ 2 * t.hgt := by
  induction t <;> simp_all [tD, PyData.depth, PyData.depthAll, KM.T.hgt] <;> omega
theorem shaped_of {d : PyData} (h1 : d.canLay0 = true) (h2 : d.depth ≤ 64) : SeqAt.shaped d = true := by
  unfold SeqAt.shaped
  rw [h1, decide_eq_true h2]
  rfl
theorem shaped_T {t : KM.T} (h : t.hgt ≤ 32) : SeqAt.shaped (tD t) = true := shaped_of (lay_T t) (by have := depth_T t; omega)

/-! ### t < u -/
def rLtD (K : PySem.W.Frag) : R2 := fun x y H Q => ∃ d e, Dp K H x d ∧ Dp K H y e ∧ SeqAt.shaped d = true ∧ SeqAt.shaped e = true ∧ Cm d e ∧ Q (.bl (ltD d e)) H
theorem op_ltD {X : Cx} (hu : X.A.units + 65 < cLine) : OpR X (compareOp .Lt) (rLtD X.K) := by
  intro pins s σ H x y v u Q I rx ry h
  obtain ⟨d, e, hd, he, sd, se, hc, q⟩ := h
  obtain ⟨as, r1⟩ := Dp.reads I d x v hd rx
  obtain ⟨bs, r2⟩ := Dp.reads I e y u he ry
  have := SeqAt.depth_of_shaped sd
  exact lt_data d e X.A s v u as bs r1 r2 (SeqAt.canLay_of_shaped sd) (SeqAt.canLay_of_shaped se) (by omega) hc _ _ _ _ ⟨.bl _, H, I, rfl, q⟩
theorem rd_lt {c : Option Addr} {K : PySem.W.Frag} {d e : PyData} (h1 : SeqAt.shaped d = true) (h2 : SeqAt.shaped e = true) (h3 : Cm d e) : RD c (rLtD K) d e (fun b => b = .bool (ltD d e)) := fun w1 x y hx hy Q q =>
  ⟨d, e, Da.dp d x (da_mono w1.ok hx), Da.dp e y (da_mono w1.ok hy), h1, h2, h3, q _ w1 (R.refl _ _) ⟨_, rfl, .bl _⟩⟩

/-! ### sorted of trees -/
theorem tD_inj {t u : KM.T} (h : tD t = tD u) : t = u := by
  have h1 := eqv_T t t
  rw [decide_eq_true rfl] at h1
  have h2 := eqv_T t u
  rw [← h, h1] at h2
  exact of_decide_eq_true h2.symm
open Classical in
noncomputable def keyT (h : Heap) (v : Value) : KM.T := if hx : ∃ t as, Reads h v (tD t) as then hx.choose else .n0 0
theorem keyT_eq {h : Heap} {v : Value} {t : KM.T} {as : List Addr} (r : Reads h v (tD t) as) : keyT h v = t := by
  have hx : ∃ t as, Reads h v (tD t) as := ⟨t, as, r⟩
  unfold keyT
  rw [dif_pos hx]
  obtain ⟨bs, q⟩ := hx.choose_spec
  exact tD_inj (SeqAt.Reads.unique _ _ _ _ _ (lay_T _) q r)
theorem swo_T {α : Type} (k : α → KM.T) : SrtO.Swo fun x y => KM.T.lt (k x) (k y) := by
  refine ⟨fun x y h => KM.T.lt_asym _ _ h, fun x y z h1 h2 => ?_⟩
  have := KM.leT_trans (k x) (k y) (k z)
  unfold KM.leT at this
  simpa [h1, h2] using this
section
variable {prog : Program} {w : World} {A : Around} {E : Value → Shared → Prop} {s : Shared}
/-- a tree at v, opened -/
theorem reads_T {h : Heap} {v : Value} {t : KM.T} {as : List Addr} (r : Reads h v (tD t) as) : ∃ (a : Addr) (o : Obj) (n : Nat) (tk : Tok) (u : Value) (bs : List Addr), v = .ref a ∧ h.get? a = some o ∧ o.cls = .type "tuple" ∧ o.data = .seq #[.int (t.r : Int) tk, u] n ∧ Reads h u (.tuple (t.bs.map tD)) bs := by
  rw [tD_eq] at r
  cases r with
  | @tuple a o vs n _ as ho hc hd hr =>
    generalize hv : vs.toList = l at hr
    cases hr with
    | cons r1 r2 =>
      cases r2 with
      | cons r3 r4 =>
        cases r4
        cases r1 with
        | int _ tk =>
          refine ⟨a, o, n, tk, _, _, rfl, ho, hc, ?_, r3⟩
          rw [hd]
          congr 1
          apply Array.toList_inj.mp
          rw [hv]
theorem tree_cmp {vs : List Value} {h0 : Heap} (hu : A.units + 70 < cLine) (hp : ∀ v ∈ vs, ∃ t as, Reads s.heap v (tD t) as ∧ keyT h0 v = t ∧ t.hgt ≤ 30) : SrtO.Cmp prog w A s (tuples' true) (fun p => p.1 ∈ vs) (SrtO.lt2 fun v u => KM.T.lt (keyT h0 v) (keyT h0 u)) := by
  intro p q hm hm'
  obtain ⟨t, as, r1, k1, g1⟩ := hp _ hm
  obtain ⟨t', as', r2, k2, g2⟩ := hp _ hm'
  show wpAny (model prog w) A (keyLt' (tuples' true) p.1 q.1) (fun r s' => s' = s ∧ r = KM.T.lt (keyT h0 p.1) (keyT h0 q.1)) (fun _ _ => False) s
  rw [k1, k2]
  obtain ⟨a, o, n, tk, u, bs, e, ho, hc, hd, hb⟩ := reads_T r1
  obtain ⟨a', o', n', tk', u', bs', e', ho', hc', hd', hb'⟩ := reads_T r2
  rw [e, e', ← ltD_T, tD_eq t, tD_eq t']
  have l1 : (PyData.tuple (t.bs.map tD)).canLay0 = true := by
    have := lay_T t
    rw [tD_eq] at this
    simpa [PyData.canLay0, PyData.canLayAll0] using this
  have l2 : (PyData.tuple (t'.bs.map tD)).canLay0 = true := by
    have := lay_T t'
    rw [tD_eq] at this
    simpa [PyData.canLay0, PyData.canLayAll0] using this
  have d1 : (PyData.tuple (t.bs.map tD)).depth ≤ 2 * t.hgt := by
    have := depth_T t
    rw [tD_eq] at this
    simp only [PyData.depth, PyData.depthAll] at this ⊢
    omega
  have cm : PyData.eqv (.int (t.r : Int)) (.int (t'.r : Int)) = true → PyData.eqv (.tuple (t.bs.map tD)) (.tuple (t'.bs.map tD)) = false → Cm (.tuple (t.bs.map tD)) (.tuple (t'.bs.map tD)) := fun q1 q2 => by
    have := cm_T t t'
    rw [tD_eq t, tD_eq t'] at this
    cases this with
    | tup h =>
      cases h with
      | cons h1 h2 =>
        cases h1 q1 with
        | cons h3 h4 => exact h4 q2
  refine PySem.W.kat_lt ho hd ho' hd' ?_
  show PySem.W.KatLex prog w A true (decide (2 < 2)) _ [(.int (t.r : Int) tk, .int (t'.r : Int) tk'), (u, u')] 0 s
  refine PySem.W.kat_cons (SeqAt.EqAt.int_int (t.r : Int) tk (t'.r : Int) tk' prog w _ _ ?_)
  refine PySem.W.kat_go (fun e1 => ?_) (fun e1 => ?_)
  · have ei : PyData.eqv (.int (t.r : Int)) (.int (t'.r : Int)) = true := by simpa [PyData.eqv] using e1
    refine PySem.W.kat_yes (PySem.W.kat_cons (SeqAt.eqAt_reads _ _ A s u u' _ _ hb hb' l1 l2 (by omega) prog w _ _ ?_))
    refine PySem.W.kat_go (fun e2 => ?_) (fun e2 => ?_)
    · refine PySem.W.kat_yes (PySem.W.kat_nil ⟨rfl, ?_⟩)
      simp only [ltD, ltDs, ei, e2, if_true]
      rfl
    · refine PySem.W.kat_no (PySem.W.kat_one _ _ ?_)
      refine lt_data _ _ A s u u' _ _ hb hb' l1 l2 (by omega) (cm ei e2) _ _ _ _ ?_
      show _ = _ ∧ _ = _
      refine ⟨rfl, ?_⟩
      simp only [ltD, ltDs, ei, e2, if_true, Bool.false_eq_true, if_false]
  · have ei : PyData.eqv (.int (t.r : Int)) (.int (t'.r : Int)) = false := by simpa [PyData.eqv] using e1
    refine PySem.W.kat_no (oneLt_int ⟨rfl, ?_⟩)
    simp only [ltD, ltDs, ei, Bool.false_eq_true, if_false]
end
end U
end

section
set_option maxRecDepth 100000
set_option maxHeartbeats 4000000
namespace U
open PySem PySem.Spec PyProof.Rows L2 HT2
section
variable {X : Cx}
theorem dpAll_get {K : PySem.W.Frag} {H : Hp} : ∀ {xs : List V} {ds : List PyData} {i : Nat} {x : V}, DpAll K H xs ds → xs[i]? = some x → ∃ d, ds[i]? = some d ∧ Dp K H x d
  | _, _, i, x, .nil, h => by simp at h
  | _, _, 0, x, .cons h1 _, h => by simp at h; subst h; exact ⟨_, rfl, h1⟩
  | _, _, i + 1, x, .cons _ h2, h => by
    obtain ⟨d, e, q⟩ := dpAll_get (i := i) (x := x) h2 (by simpa using h)
    exact ⟨d, by simpa using e, q⟩
theorem dpAll_len {K : PySem.W.Frag} {H : Hp} : ∀ {xs : List V} {ds : List PyData}, DpAll K H xs ds → xs.length = ds.length
  | _, _, .nil => rfl
  | _, _, .cons _ h => by rw [List.length_cons, List.length_cons, dpAll_len h]
/-- sorted(xs), xs a list of trees -/
def rSortTr (K : PySem.W.Frag) : List V → Hp → VK → Prop := fun vs H Q => ∃ (a : Addr) (xs : List V) (ts : List KM.T), vs = [V.ref a] ∧ SqL K H a xs ∧ DpAll K H xs (ts.map tD) ∧ (∀ t ∈ ts, t.hgt ≤ 30) ∧
  ∀ (zs : List (V × KM.T)) (p : Addr), zs.Perm (xs.zip ts) → (zs.map (·.2)).Pairwise (fun a b => KM.leT a b = true) → H p = none → Q (.ref p) (upd H p (.lst (zs.map (·.1))))
theorem cr_sortTr (hu : X.A.units + 100 < cLine) : CallR X (.builtin "sorted") (rSortTr X.K) := by
  intro pins s σ H vs us Q I r h
  obtain ⟨a, xs, ts, rfl, hs, hd, hh, q⟩ := h
  obtain ⟨its, rv, hl, hz⟩ := I.list hs
  obtain ⟨u, rfl, ru⟩ := vals1 r
  obtain rfl : u = Value.ref a := ru
  have hlen := dpAll_len hd
  rw [List.length_map] at hlen
  obtain ⟨e1, e2⟩ := refs_back rv fun x m => by
    obtain ⟨i, hi, hx⟩ := List.getElem_of_mem m
    obtain ⟨d, hd1, hd2⟩ := dpAll_get hd (show xs[i]? = some x by rw [List.getElem?_eq_getElem hi, hx])
    rw [List.getElem?_map] at hd1
    cases e : ts[i]? with
    | none => rw [e] at hd1; cases hd1
    | some t =>
      rw [e] at hd1
      have hd1 : tD t = d := Option.some.inj hd1
      rw [← hd1, tD_eq] at hd2
      cases hd2 with
      | tup _ _ => exact ⟨_, rfl⟩
  -- each value is a tree
  have key : ∀ (i : Nat) (v : Value), its[i]? = some v → ∃ t as, ts[i]? = some t ∧ Reads s.heap v (tD t) as ∧ keyT s.heap v = t ∧ t.hgt ≤ 30 := fun i v hv => by
    have hi : i < its.length := (List.getElem?_eq_some_iff.mp hv).1
    have hxl : i < xs.length := by rw [rv.length]; exact hi
    obtain ⟨u, hu', ru⟩ := rv.get (show xs[i]? = some xs[i] from List.getElem?_eq_getElem hxl)
    rw [hv] at hu'
    cases hu'
    obtain ⟨d, hd1, hd2⟩ := dpAll_get hd (show xs[i]? = some xs[i] from List.getElem?_eq_getElem hxl)
    rw [List.getElem?_map] at hd1
    cases e : ts[i]? with
    | none => rw [e] at hd1; cases hd1
    | some t =>
      rw [e] at hd1
      have hd1 : tD t = d := Option.some.inj hd1
      rw [← hd1] at hd2
      obtain ⟨as, rr⟩ := Dp.reads I (tD t) _ v hd2 ru
      exact ⟨t, as, rfl, rr, keyT_eq rr, hh t (List.mem_of_getElem? e)⟩
  have keyM : ∀ v ∈ its, ∃ t as, Reads s.heap v (tD t) as ∧ keyT s.heap v = t ∧ t.hgt ≤ 30 := fun v hv => by
    obtain ⟨i, hi, hx⟩ := List.getElem_of_mem hv
    obtain ⟨t, as, _, h1, h2, h3⟩ := key i v (by rw [List.getElem?_eq_getElem hi, hx])
    exact ⟨t, as, h1, h2, h3⟩
  have ets : ts = its.map (keyT s.heap) := by
    apply List.ext_getElem?
    intro i
    rw [List.getElem?_map]
    cases e : its[i]? with
    | none =>
      have : its.length ≤ i := List.getElem?_eq_none_iff.mp e
      rw [← rv.length, hlen] at this
      rw [List.getElem?_eq_none this]
      rfl
    | some v =>
      obtain ⟨t, _, h1, _, h2, _⟩ := key i v e
      rw [h1]
      show some t = some (keyT s.heap v)
      rw [h2]
  have hzip : xs.zip ts = its.map fun v => (backV v, keyT s.heap v) := by
    rw [e1, ets]
    have : ∀ l : List Value, (l.map backV).zip (l.map (keyT s.heap)) = l.map fun v => (backV v, keyT s.heap v) := fun l => by
      induction l with
      | nil => rfl
      | cons v l ih => rw [List.map_cons, List.map_cons, List.map_cons, List.zip_cons_cons, ih]
    exact this its
  refine SrtO.sorted_ord (swo_T (keyT s.heap)) hl.isList (by rw [← rv.length]; exact hz) (fun h2 h₁ b hb kk => ?_) fun out h1 h2 => ?_
  · intro h' keep
    have old : ∀ c o, s.heap.get? c = some o → h'.get? c = some o := fun c o e => keep c o (kk c o e).1 (kk c o e).2
    refine ⟨tuples' true, fun Q' E' hq => ?_, ?_⟩
    · have hopen : ∀ (l : List Value), (∀ v ∈ l, v ∈ its) → ∃ fs, PySem.W.KatTups h' l fs ∧ fs.length = l.length ∧ ∀ f ∈ fs, ∃ (x : Int) (t : Tok), f = .int x t := by
        intro l
        induction l with
        | nil => intro _; exact ⟨[], .nil, rfl, fun _ h => by cases h⟩
        | cons v l ih =>
          intro hv
          obtain ⟨fs, f1, f2, f3⟩ := ih fun u hu => hv u (List.mem_cons_of_mem _ hu)
          obtain ⟨t, as, rr, _, _⟩ := keyM v (hv v List.mem_cons_self)
          obtain ⟨c, o, n, tk, u, bs, e, ho, hc, hd', _⟩ := reads_T rr
          subst e
          refine ⟨.int (t.r : Int) tk :: fs, .cons (old _ _ ho) hc hd' rfl f1, by simp [f2], fun f hf => ?_⟩
          rcases List.mem_cons.mp hf with e | hf
          · exact ⟨_, _, e⟩
          · exact f3 f hf
      obtain ⟨fs, f1, f2, f3⟩ := hopen its fun _ h => h
      refine PySem.W.kat_kind (T := .type "int") f1 (by omega) (fun f hm => ?_) (by rfl) ?_
      · obtain ⟨x, t, rfl⟩ := f3 f hm
        exact PySem.W.Looks.now
      · have e : (Value.type "int" != Value.type "tuple") = true := by first | decide +kernel | rfl | decide
        rw [e]
        exact hq
    · refine tree_cmp (h0 := s.heap) (by show X.A.units + 1 + 1 + 70 < cLine; omega) fun v hv => ?_
      obtain ⟨t, as, rr, hk, hg⟩ := keyM v hv
      exact ⟨t, as, PyProof.Rows.Reads.keeps old rr, hk, hg⟩
  · have h3 : ∀ u ∈ out, ∃ a, u = Value.ref a := fun u hu => e2 u (h2.perm.mem_iff.mp hu)
    obtain ⟨n, hn⟩ := sortedAll_at s.heap its out.toArray
    have hp : (out.map fun v => (backV v, keyT s.heap v)).Perm (xs.zip ts) := by rw [hzip]; exact h2.perm.map _
    have hb : (out.map fun v => (backV v, keyT s.heap v)).map (·.1) = out.map backV := by rw [List.map_map]; rfl
    have hsorted : ((out.map fun v => (backV v, keyT s.heap v)).map (·.2)).Pairwise (fun a b => KM.leT a b = true) := by
      rw [List.map_map]
      refine List.pairwise_map.mpr (h1.imp fun {x y} hxy => ?_)
      show (!KM.T.lt (keyT s.heap y) (keyT s.heap x)) = true
      have hxy : KM.T.lt (keyT s.heap y) (keyT s.heap x) = false := hxy
      rw [hxy]
      rfl
    have := q (out.map fun v => (backV v, keyT s.heap v)) (s.heap.objs.size + 1) hp hsorted (I.hok.fresh (Nat.le_succ _))
    rw [hb] at this
    refine ⟨.ref (s.heap.objs.size + 1), upd H (s.heap.objs.size + 1) (.lst (out.map backV)), I.laid (t' := s.toks) (fun b o e => sortedAll_old e) (Nat.le_succ _) ⟨?_, out, n, vals_back h3, hn⟩, rfl, this⟩
    have := h2.len
    rw [List.length_map, this, ← rv.length]
    exact hz
theorem dal_zip {G : Hp} {f : KM.T → PyData} : ∀ {xs : List V} {ts : List KM.T}, DaL G xs (ts.map f) → ∀ p ∈ xs.zip ts, Da G p.1 (f p.2)
  | _, [], h, p, hp => by simp at hp
  | _, t :: ts, h, p, hp => by
    cases h with
    | cons h1 h2 =>
      rw [List.zip_cons_cons] at hp
      rcases List.mem_cons.mp hp with e | hp
      · subst e; exact h1
      · exact dal_zip h2 p hp
theorem dal_of {G : Hp} {f : KM.T → PyData} : ∀ {zs : List (V × KM.T)}, (∀ p ∈ zs, Da G p.1 (f p.2)) → DaL G (zs.map (·.1)) ((zs.map (·.2)).map f)
  | [], _ => .nil
  | p :: zs, h => .cons (h p List.mem_cons_self) (dal_of fun q hq => h q (List.mem_cons_of_mem _ hq))
/-- sorted(xs): a new list -/
theorem ev_sorted {K : PySem.W.Frag} {c : Option Addr} {tr : TA} {Γ : List De} {w : Wo} {ts us : List KM.T} (h : EvAE c tr Γ w [.list (ts.map tD)]) (hg : ∀ t ∈ ts, t.hgt ≤ 30)
    (hu : ∀ l : List KM.T, l.Perm ts → l.Pairwise (fun a b => KM.leT a b = true) → l = us) : EvN c (tCB (rSortTr K) tr) Γ w (fun e => e = us.map tD) := fun w1 σ r s Q q => h w1 σ r s _ fun vs w2 r2 ⟨d, e, hd⟩ => by
  subst e
  cases hd with
  | cons h1 h2 =>
    cases h2
    obtain ⟨a, xs, rfl, hG, hl⟩ := h1.lstV
    refine ⟨a, xs, ts, rfl, SqL.of (w2.ok _ _ hG), DaL.dp _ _ (dal_mono w2.ok hl), hg, fun zs p hp hs hn => ?_⟩
    have hm : (zs.map (·.2)).Perm ts := by
      have := hp.map (·.2)
      rw [List.map_snd_zip (by have := hl.len; rw [List.length_map] at this; omega)] at this
      exact this
    have eu := hu _ hm hs
    have hz : DaL w2.G (zs.map (·.1)) ((zs.map (·.2)).map tD) := dal_of fun p' hp' => dal_zip hl p' (hp.mem_iff.mp hp')
    rw [eu] at hz
    exact q p _ (w2.put p (.lst (zs.map fun z : V × KM.T => z.1)) (w2.out hn)) (r2.trans ((R.refl _ _).put hn (w2.out hn))) (r2.free hn) rfl ⟨w2.out hn, (zs.map fun z : V × KM.T => z.1), upd_same, hz⟩

/-! ### the sum of a tuple -/
def rSumT (K : PySem.W.Frag) : List V → Hp → VK → Prop := fun vs H Q => ∃ (a : Addr) (ns : List Int), vs = [V.ref a] ∧ SqT K H a (ns.map V.int) ∧ Q (.int ns.sum) H
theorem cr_sumT (hc : X.calm = true) : CallR X (.builtin "sum") (rSumT X.K) := by
  intro pins s σ H vs us Q I r h
  obtain ⟨a, ns, rfl, hs, q⟩ := h
  obtain ⟨its, rv, hl, _⟩ := I.tuple hs
  rw [Vals.ref1 r]
  have hi := rv.ints
  obtain ⟨xs, e⟩ := hi.allInts.items
  have hn : numsOf (intItems xs).toList = ns := by rw [← e]; exact hi.numsOf
  rw [nums_intItems] at hn
  have hl : s.heap.IsTuple a its.toArray := hl
  rw [e] at hl
  refine PySem.W.ktm_sumG (I.ok.hd hc) hl fun h' tk t' hk => ?_
  refine ⟨.int _, H, I.kept hk, ⟨_, rfl⟩, ?_⟩
  rw [preSum_eq, List.take_of_length_le (by simp), hn]
  exact q
theorem ev_sumT {K : PySem.W.Frag} {c : Option Addr} {tr : TA} {Γ : List De} {w : Wo} {ns : List Int} (h : EvAE c tr Γ w [.tuple (ns.map .int)]) : EvE c (tCB (rSumT K) tr) Γ w (.int ns.sum) := fun w1 σ r s Q q => h w1 σ r s _ fun vs w2 r2 ⟨d, e, hd⟩ => by
  subst e
  cases hd with
  | cons h1 h2 =>
    cases h2
    obtain ⟨a, xs, rfl, hG, hl⟩ := h1.tupV
    have e := hl.ints
    subst e
    exact ⟨a, ns, rfl, SqT.of (w2.ok _ _ hG), q _ w2 r2 ⟨_, rfl, .int _⟩⟩

end
end U
namespace PySem
open Sem (wp)
open AutoSeq1 (wpAny_loadPart')
theorem meets_enumerate_newT (l : Addr) (items : Array Value) (n : Nat) (dct : Option Addr) (sl : Array (Option Value)) :
    Meets (Builtin.«enumerate.__new__» ⟨[.type "enumerate", .ref l], []⟩) (fun _ R s => s.heap.get? l = some { cls := .type "tuple", dict := dct, data := .seq items n, slots := sl } ∧
      R (.ok (.ret (.ref (s.heap.push { cls := .type "tuple_iterator", data := .fields #[.ref l, .int 0 0] }).objs.size)))
        { s with heap := (s.heap.push { cls := .type "tuple_iterator", data := .fields #[.ref l, .int 0 0] }).push { cls := .type "enumerate", data := .fields #[.none, .bool false, .ref s.heap.objs.size, rawInt 0, .none, .none] } }) :=
  .of_wp fun prog w A R s h => by
    obtain ⟨hp, g, d, tk, os⟩ := s; obtain ⟨hl, h⟩ := h
    have hsub := sub_enumerate
    have hL : Heap.IsTuple (Shared.heap ⟨hp, g, d, tk, os⟩) l items := ⟨_, hl, rfl, n, rfl⟩
    wp_walk using wpAny_loadPart' hl
    refine wpAny_stack_any fun st => wpAny_pure ?_
    split
    · rename_i c _ _ _ _ _
      cases (c == Value.type "enumerate")
      · wp_walk using wpAny_loadPart' hl, wpAny_pyIter_tuple hL
        exact ⟨_, rfl, h⟩
      · wp_walk using wpAny_loadPart' hl, wpAny_pyIter_tuple hL
        exact ⟨_, rfl, h⟩
    · wp_walk using wpAny_loadPart' hl, wpAny_pyIter_tuple hL
      exact ⟨_, rfl, h⟩
theorem call_enumerate_tuple {prog : Program} {w : World} {A : Around} {E : Value → Shared → Prop} {s : Shared} {l : Addr} {items : Array Value} {Q : Value → Shared → Prop} (hL : s.heap.IsTuple l items)
    (h : ∀ h', IsEnum h' (s.heap.objs.size + 1) s.heap.objs.size 0 .none → h'.IsTupleIter s.heap.objs.size l 0 → h'.objs.size = s.heap.objs.size + 2 →
      (∀ b o, s.heap.get? b = some o → h'.get? b = some o) → Q (.ref (s.heap.objs.size + 1)) { s with heap := h' }) :
    wpAny (model prog w) A (call (.type "enumerate") [.ref l]) Q E s := by
  obtain ⟨⟨c, dct, dt, sl⟩, hl, hc, n, hd⟩ := hL
  replace hc : c = .type "tuple" := hc
  replace hd : dt = .seq items n := hd
  subst hc hd
  refine callType_new F.called_enumerate (by decide) (F.typeCall_enumerate_1 _) (F.newCall_enumerate_1 _) (fun obj => F.args_object_init_2 obj _) F.entry_enumerate_new
    (meets_enumerate_newT l items n dct sl) ⟨hl, ?_⟩
  have hz : (s.heap.push { cls := .type "tuple_iterator", data := .fields #[.ref l, .int 0 0] }).objs.size = s.heap.objs.size + 1 := Heap.size_push ..
  show _ ∧ _
  rw [hz]
  have he : IsEnum ((s.heap.push { cls := .type "tuple_iterator", data := .fields #[.ref l, .int 0 0] }).push
      { cls := .type "enumerate", data := .fields #[.none, .bool false, .ref s.heap.objs.size, rawInt 0, .none, .none] }) (s.heap.objs.size + 1) s.heap.objs.size 0 .none := by
    have := Heap.get?_push_size (s.heap.push { cls := .type "tuple_iterator", data := .fields #[.ref l, .int 0 0] })
      (o := { cls := .type "enumerate", data := .fields #[.none, .bool false, .ref s.heap.objs.size, rawInt 0, .none, .none] }) rfl
    rw [hz] at this; exact this
  refine ⟨⟨_, he, rfl⟩, h _ he ⟨_, Heap.get?_push_of_some _ (Heap.get?_push_size _ rfl), rfl, rfl⟩ (by rw [Heap.size_push, hz]) fun b o x => Heap.get?_push_of_some _ (Heap.get?_push_of_some _ x)⟩
end PySem
namespace PySem
open Sem (wp)
theorem pyNext_enumT_end {prog : Program} {w : World} {A : Around} {E : Value → Shared → Prop} {s : Shared} {e it l : Addr} {i : Nat} {items : Array Value} {old : Value} {Q : Option Value → Shared → Prop} (hh : A.handled = none)
    (he : IsEnum s.heap e it i old) (hit : s.heap.IsTupleIter it l i) (hl : s.heap.IsTuple l items) (hx : items[i]? = none)
    (hQ : ∀ h', Heap.ExtBut it s.heap h' → Q none { s with heap := h' }) : wpAny (model prog w) A (pyNext (.ref e)) Q E s := by
  have hT : s.TypeIs (.ref e) "enumerate" := ⟨_, he, rfl⟩
  unfold pyNext
  refine wpAny_bind (wpAny_attempt (wpAny_callSpecial?_slot (name := Str.ofString "__next__") hT F.slot_enumerate_next
    (wpAny_call_entry F.slot_enumerate_next hT F.entry_enumerate_next ?_ (F.args_enumerate_next_1 _))))
  show wpAny _ _ (field (.ref e) 2 >>= _) _ _ _
  refine wpAny_bind (wpAny_field he rfl (x := .ref it) rfl ?_)
  refine wpAny_bind (RZ.nextOf_tuple_end hh hit hl hx fun h' x he' hx' => ?_)
  obtain ⟨o, ho, hc⟩ := hx'
  refine wpAny_bind (wpAny_isInstance (T := "StopIteration") (b := true) ⟨o, ho, hc⟩ isSubtype_stop ?_)
  exact wpAny_pure (hQ _ he')
end PySem
namespace U
open PySem PySem.Spec PyProof.Rows L2 HT2
/-- the tuple at a, each item in a new pair -/
def IteT (K : PySem.W.Frag) (a : Addr) : It :=
  ⟨fun i H => ∃ (xs : List V) (x : V), SqT K H a xs ∧ xs[i]? = some x, fun i H v H' => ∃ T x, v = .ref T ∧ H T = none ∧ H' = upd H T (.tup [.int (i : Nat), x]) ∧ ∀ xs, SqT K H a xs → xs[i]? = some x, fun i H => ∃ xs : List V, SqT K H a xs ∧ xs.length ≤ i⟩
theorem turn_enumT {P : Program} {w : World} {K : PySem.W.Frag} {elts : List Expr} {kk : Nat} {tpos : Pos} (a e it : Addr) :
    Turn P w K (.Tuple elts kk tpos) (IteT K a) [e, it] e (fun i h => (∃ old, IsEnum h e it ((i : Nat) : Int) old) ∧ h.IsTupleIter it a i ∧ e ≠ it ∧ a ≠ it ∧ e ≠ a) where
  mem := by simp
  obj := fun i h st b hb => by
    obtain ⟨⟨old, he⟩, ⟨o, ho, hc, hd⟩, _⟩ := st
    have e' : b = e ∨ b = it := by simpa using hb
    rcases e' with z | z
    · rw [z]; exact ⟨_, he, fun v q => nomatch q⟩
    · rw [z]; exact ⟨o, ho, fun v q => by rw [hd] at q; cases q⟩
  keep := fun i h h' st k => let ⟨⟨old, he⟩, hi, hne, h2, h3⟩ := st; ⟨⟨old, k e (by simp) _ he⟩, hi.at fun o q => k it (by simp) o q, hne, h2, h3⟩
  item := by
    intro X hP hw hK hc i pins s σ H E I hf st hg
    subst hP hw hK
    obtain ⟨⟨old, he⟩, hit, hne, hai, hea⟩ := st
    obtain ⟨xs, x, hq, hx⟩ := hg
    obtain ⟨its, rv, p, hz⟩ := I.tuple hq
    obtain ⟨u, hu, ru⟩ := rv.get hx
    have hel : e < s.heap.objs.size := Heap.lt_size he
    have hil : it < s.heap.objs.size := by obtain ⟨_, q, _⟩ := hit; exact Heap.lt_size q
    have p' : s.heap.IsTuple a its.toArray := p
    refine wpAny_pyNext_enum_itemD (Draws.tuple (A := X.A.in1) (I.ok.hd hc) it a hai its.toArray) he ⟨hit, p'⟩ (by have := (List.getElem?_eq_some_iff.mp hu).1; simpa using this) hne (by simp [hne, hea]) fun y h' tk hy ho hst hT hsz hk => ?_
    have hy : y = u := by
      have hu' : its.toArray[i]? = some u := by simpa using hu
      have hy : its.toArray[i]? = some y := hy
      rw [hu'] at hy
      exact (Option.some.inj hy).symm
    subst hy
    refine ⟨_, rfl, wpAny_letOwnedTupleGo_enum (s := { s with heap := h', toks := tk + 1 }) ho fun h'' he' sb => ?_⟩
    have hT2 : h''.get? s.heap.objs.size = some { cls := .type "tuple", data := .seq #[.int i tk, y] } := (sb.2 _ (Nat.ne_of_gt hel)).trans hT
    have new : ObjOk X.prog X.w (upd H s.heap.objs.size (.tup [.int (i : Nat), x])) h'' s.heap.objs.size (.tup [.int (i : Nat), x]) :=
      ⟨by show 2 ≤ sizeLine; decide, [.int i tk, y], .cons ⟨_, rfl⟩ (.cons ru .nil), ⟨_, hT2, rfl, _, rfl⟩⟩
    have I1 : L2.Inv X pins σ (upd H s.heap.objs.size (.tup [.int (i : Nat), x])) { s with heap := h'', toks := tk + 1 } :=
      I.turnedNew (ch := [e, it]) (fun b ob hb q => (sb.2 b (fun z => hb (by simp [z]))).trans (hk b ob (fun z => hb (by simp [z])) (fun z => hb (by simp [z])) q)) hf (Nat.le_refl _) new
    refine ⟨.ref s.heap.objs.size, _, I1, rfl, ⟨_, x, rfl, I.hok.fresh (Nat.le_refl _), rfl, fun ys hy => by rw [I.tuple_inj hy hq]; exact hx⟩, ⟨⟨y, ?_⟩, hst.1.at fun o q => (sb.2 it (Ne.symm hne)).trans q, hne, hai, hea⟩, fun b hb => ?_⟩
    · have e1 : ((i + 1 : Nat) : Int) = (i : Int) + 1 := by omega
      rw [e1]; exact he'
    · have hb' : b < s.heap.objs.size := by
        have e' : b = e ∨ b = it := by simpa using hb
        rcases e' with z | z
        · rw [z]; exact hel
        · rw [z]; exact hil
      rw [upd_ne (Nat.ne_of_lt hb')]
      exact (hf b hb).1
  done := by
    intro X hP hw hK hc i pins s σ H E I hf st hg
    subst hP hw hK
    obtain ⟨⟨old, he⟩, hit, hne, hai, hea⟩ := st
    obtain ⟨xs, hq, hx⟩ := hg
    obtain ⟨its, rv, p, hz⟩ := I.tuple hq
    have p' : s.heap.IsTuple a its.toArray := p
    obtain ⟨f0, f1, f2, f3, f4, f5⟩ := hf it (by simp)
    have hl := rv.length
    exact pyNext_enumT_end (I.ok.hd hc) he hit p' (by simp; omega) fun h' eb => ⟨rfl, I.turned (t' := s.toks) (fun b o hb q => eb b o hb q) f0 f1 f3 f4 f5⟩
  self := fun A i s Q E st h => let ⟨⟨_, he⟩, _⟩ := st; wpAny_pyIter_enum he h
def iEnumT (K : PySem.W.Frag) (ta : TA) : TI := fun σ H R => ta σ H fun vs H1 => ∃ a xs, vs = [.ref a] ∧ SqT K H1 a xs ∧ R (IteT K a) H1
theorem pi_enumT {X : Cx} {e : Expr} {ta : TA} {p pos tpos : Pos} {elts : List Expr} {kk : Nat} (hg : Gl X "enumerate") (hm : X.mg "enumerate" = none) (ha : PA X [e] ta) (hs : starEach [e] X.env = [(false, eval e X.env)] := by rfl) :
    PI X (.Tuple elts kk tpos) (.Call (.Name "enumerate" p) [e] [] pos) (iEnumT X.K ta) := by
  refine ⟨fun pins s σ H R I h => ?_⟩
  refine Call_ (ld_blt I hg hm boot_enumerate (PyProof.Rows.callWith_type1 (thn (ha.run pos pins s σ H _ I h) fun us s1 ⟨vs, H1, I1, r1, q1⟩ => ?_) hs rfl))
  obtain ⟨a, xs, ex, hq, q⟩ := q1
  subst ex
  cases r1 with
  | cons r rr =>
    cases rr
    cases r
    obtain ⟨its, rv, p', hz⟩ := I1.tuple hq
    have p2 : s1.heap.IsTuple a its.toArray := p'
    have hal : a < s1.heap.objs.size := by obtain ⟨_, q, _⟩ := p2; exact Heap.lt_size q
    refine call_enumerate_tuple p2 fun h' he hit hsz hk => wpAny_pyIter_enum he ?_
    have I2 : L2.Inv X pins σ H1 { s1 with heap := h' } := I1.kept (t' := s1.toks) hk
    refine ⟨s1.heap.objs.size + 1, [s1.heap.objs.size + 1, s1.heap.objs.size], _, _, H1, rfl, I2, turn_enumT a (s1.heap.objs.size + 1) s1.heap.objs.size, ⟨⟨.none, he⟩, hit, Nat.succ_ne_self _, Nat.ne_of_lt hal, Nat.ne_of_gt (Nat.lt_succ_of_lt hal)⟩, fun b hb => ?_, q⟩
    have e' : b = s1.heap.objs.size + 1 ∨ b = s1.heap.objs.size := by simpa using hb
    have hle : s1.heap.objs.size ≤ b := by
      rcases e' with z | z
      · rw [z]; exact Nat.le_add_right _ _
      · rw [z]; exact Nat.le_refl _
    exact I1.fpOk hle (I1.hok.fresh hle)
theorem itd_enumT {K : PySem.W.Frag} {a : Addr} {xs : List V} {ds : List PyData} {G0 : Hp} (h : G0 a = some (.tup xs)) (hd : DaL G0 xs ds) : ItD (IteT K a) G0 (ds.zipIdx.map fun p => .tuple [.int (p.2 : Int), p.1]) := by
  refine ⟨fun i d w e hi => ?_, fun w e => ⟨xs, SqT.of (w.ok _ _ (e _ _ h)), by rw [hd.len, List.length_map, List.length_zipIdx]; exact Nat.le_refl _⟩⟩
  rw [List.getElem?_map, List.getElem?_zipIdx] at hi
  cases q : ds[i]? with
  | none => rw [q] at hi; cases hi
  | some d0 =>
    rw [q] at hi
    have hi : PyData.tuple [.int ((0 + i : Nat) : Int), d0] = d := Option.some.inj hi
    obtain ⟨x, hx, dx⟩ := hd.get q
    refine ⟨⟨xs, x, SqT.of (w.ok _ _ (e _ _ h)), hx⟩, fun y H' ⟨T, z, e1, e2, e3, e4⟩ => ⟨w.new T (.tup [.int (i : Nat), z]), e3, R.new _ e2, ?_⟩⟩
    have := e4 xs (SqT.of (w.ok _ _ (e _ _ h)))
    rw [hx] at this
    cases this
    rw [e1, ← hi, Nat.zero_add]
    exact da_pair e2 (.int _) (da_mono e dx)
theorem ei_enumT {K : PySem.W.Frag} {c : Option Addr} {Γ : List De} {w : Wo} {tr : TA} {ds : List PyData} (h : EvAE c tr Γ w [.tuple ds]) : EvI c (iEnumT K tr) Γ w (ds.zipIdx.map fun p => .tuple [.int (p.2 : Int), p.1]) := fun w1 σ r s k q => h w1 σ r s _ fun v w2 r2 ⟨d, e, hd⟩ => by
  subst e
  cases hd with
  | cons h1 h2 =>
    cases h2
    obtain ⟨a, xs, rfl, hG, hl⟩ := h1.tupV
    exact ⟨a, xs, rfl, SqT.of (w2.ok _ _ hG), q _ w2 r2 (itd_enumT hG hl)⟩
end U
end

section
set_option maxRecDepth 100000
set_option maxHeartbeats 4000000
/-! The layer of data, fifth part: a statement and what follows it. -/
namespace U
open PySem PySem.Spec PyProof.Rows L2
section
variable {K : PySem.W.Frag} {c : Option Addr} {Γ Γ' : List De} {w w0 w' : Wo} {te ta tb tl : TE} {tt : TT} {tr : TA} {t u : TS} {E : Ends} {k : L2.St → Hp → Prop} {D1 : PyData → Prop}
/-- what len reads -/
abbrev rLen (K : PySem.W.Frag) : List V → Hp → VK → Prop := fun xs H Q => ∃ p ys, xs = [.ref p] ∧ (SqL K H p ys ∨ SqT K H p ys) ∧ Q (.int ys.length) H
abbrev rListOf (K : PySem.W.Frag) : List V → Hp → VK → Prop := fun xs H Q => ∃ p ys, xs = [.ref p] ∧ (SqL K H p ys ∨ SqT K H p ys) ∧ ∀ l, H l = none → Q (.ref l) (upd H l (.lst ys))
theorem units_lt {k n : Nat} {A : Around} (hr : Room k A) (h : n ≤ 200) : A.units + n < cLine := by have := hr.un; omega
theorem EvD.to {d e : PyData} (h : EvE c te Γ w d) (q : d = e) : EvE c te Γ w e := q ▸ h
theorem sq_set {j : Nat} (h : EvD c te Γ w D1) (q : ∀ d w1, R c w w1 → D1 d → On c (u E) (Γ.set j (.dat d)) w1) : On c (tSeq (tAsg te (gName j)) u E) Γ w := on_set h q
theorem sq_sete {j : Nat} {d : PyData} (h : EvE c te Γ w d) (q : ∀ w1, R c w w1 → On c (u E) (Γ.set j (.dat d)) w1) : On c (tSeq (tAsg te (gName j)) u E) Γ w := on_sete h q
theorem sq_setN {j : Nat} {P : List PyData → Prop} (h : EvN c te Γ w P) (q : ∀ a ds w1, R c w w1 → w.H a = none → P ds → On c (u E) (Γ.set j (.ml a ds)) w1) : On c (tSeq (tAsg te (gName j)) u E) Γ w := on_setN h q
theorem sq_setNe {j : Nat} {es : List PyData} (h : EvN c te Γ w (fun e => e = es)) (q : ∀ a w1, R c w w1 → w.H a = none → On c (u E) (Γ.set j (.ml a es)) w1) : On c (tSeq (tAsg te (gName j)) u E) Γ w := on_setN h fun a ds w1 r ha e => by rw [e]; exact q a w1 r ha
theorem sq_asg {g : TG} {js : List Nat} {d : PyData} (h : EvE c te Γ w d) (tg : Tg g js d Γ Γ') (q : ∀ w1, R c w w1 → On c (u E) Γ' w1) : On c (tSeq (tAsg te g) u E) Γ w := on_asg h tg q
theorem sq_drop (h : EvD c te Γ w D1) (q : ∀ w1, R c w w1 → On c (u E) Γ w1) : On c (tSeq (tDrop te) u E) Γ w := on_drop h q
theorem on_ifT {b : Bool} (h : EvT c tt Γ w (fun e => e = b)) (hb : b = true) (q : ∀ w1, R c w w1 → On c (t E) Γ w1) : On c (tIfS tt t u E) Γ w := on_ife h (fun w1 r _ => q w1 r) fun w1 r e => by rw [hb] at e; cases e
theorem on_ifF {b : Bool} (h : EvT c tt Γ w (fun e => e = b)) (hb : b = false) (q : ∀ w1, R c w w1 → On c (u E) Γ w1) : On c (tIfS tt t u E) Γ w := on_ife h (fun w1 r e => by rw [hb] at e; cases e) fun w1 r _ => q w1 r
theorem sq_ifT {b : Bool} {v : TS} (h : EvT c tt Γ w (fun e => e = b)) (hb : b = true) (q : ∀ w1, R c w w1 → On c (t { E with nx := u E }) Γ w1) : On c (tSeq (tIfS tt t v) u E) Γ w := on_ifT h hb q
/-- an if without an else, not so -/
theorem sq_ifF {b : Bool} (h : EvT c tt Γ w (fun e => e = b)) (hb : b = false) (q : ∀ w1, R c w w1 → On c (u E) Γ w1) : On c (tSeq (tIfS tt t tNext) u E) Γ w := on_ifF h hb q
theorem sq_if {b : Bool} (h : EvT c tt Γ w (fun e => e = b)) (q1 : ∀ w1, R c w w1 → b = true → On c (t { E with nx := u E }) Γ w1) (q2 : ∀ w1, R c w w1 → b = false → On c (u E) Γ w1) : On c (tSeq (tIfS tt t tNext) u E) Γ w := on_ife h q1 q2
theorem sq_for {α S : Type} {wi : TI} {g : TG} {js : List Nat} (xs : List α) (enc : α → PyData) (hi : EvI c wi Γ w (xs.map enc)) (r0 : R c w0 w) (Γf : S → List De) (step : S → α → S) (Iv : Nat → S → Prop) (s0 : S) (hΓ : Le (Γf s0) Γ) (h0 : Iv 0 s0)
    (hv : ∀ i s x, xs[i]? = some x → Iv i s → Iv (i + 1) (step s x))
    (hs : ∀ i s x w' G0, xs[i]? = some x → Iv i s → s = (xs.take i).foldl step s0 → R c w0 w' → Ext w.G G0 → Ext G0 w'.G → ∃ Γ1, Tg g js (enc x) (Γf s) Γ1 ∧ On c (t { E with nx := Nx c w0 G0 (Γf (step s x)), ct := Nx c w0 G0 (Γf (step s x)), bk := u E }) Γ1 w')
    (hd : ∀ w', Iv xs.length (xs.foldl step s0) → R c w0 w' → Ext w.G w'.G → On c (u E) (Γf (xs.foldl step s0)) w') : On c (tSeq (tFor wi g t) u E) Γ w :=
  on_for (E := { E with nx := u E }) xs enc hi r0 Γf step Iv s0 hΓ h0 hv hs hd
theorem sq_app {i : Nat} {a : Addr} {ds : List PyData} (r0 : R c w0 w) (ha : w0.H a = none) (hi : Γ[i]? = some (.ml a ds)) (hn : Nm a (Γ.set i .no)) (h : EvD c te Γ w D1) (hz : ds.length < 100000)
    (q : ∀ d w1, R c w0 w1 → Ext w.G w1.G → D1 d → On c (u E) (Γ.set i (.ml a (ds ++ [d]))) w1) : On c (tSeq (tDrop (tBM K "list" rAppend (tVar i) (tCons te tNil))) u E) Γ w := on_app r0 ha hi hn h hz q
theorem sq_appM {i j : Nat} {a b : Addr} {ds es : List PyData} (r0 : R c w0 w) (ha : w0.H a = none) (hb : w0.H b = none) (hab : b ≠ a) (hi : Γ[i]? = some (.ml a ds)) (hj : Γ[j]? = some (.ml b es)) (hn : Nm a ((Γ.set j (.dat (.list es))).set i .no)) (hn2 : Nm b (Γ.set j .no)) (hij : i ≠ j) (hz : ds.length < 100000)
    (q : ∀ w1, R c w0 w1 → Ext w.G w1.G → On c (u E) ((Γ.set j (.dat (.list es))).set i (.ml a (ds ++ [.list es]))) w1) : On c (tSeq (tDrop (tBM K "list" rAppend (tVar i) (tCons (tVar j) tNil))) u E) Γ w := on_appM r0 ha hb hab hi hj hn hn2 hij hz q
theorem sq_setI {i j : Nat} {a : Addr} {ds : List PyData} {d : PyData} (r0 : R c w0 w) (ha : w0.H a = none) (hi : Γ[i]? = some (.ml a ds)) (hn : Nm a (Γ.set i .no)) (h : EvE c te Γ w d) (hx : EvE c tb Γ w (.int (j : Int))) (hj : j < ds.length)
    (q : ∀ w1, R c w0 w1 → Ext w.G w1.G → On c (u E) (Γ.set i (.ml a (ds.set j d))) w1) : On c (tSeq (tAsg te (gSub (tVar i) tb rSetL)) u E) Γ w := on_setI r0 ha hi hn h hx hj q
theorem sq_while {S : Type} (r0 : R c w0 w) (Γf : S → List De) (μ : S → Nat) (Iv : S → Prop) (b : S → Bool) (s0 : S) (hΓ : Le (Γf s0) Γ) (h0 : Iv s0)
    (ht : ∀ s w', Iv s → R c w0 w' → Ext w.G w'.G → EvT c tt (Γf s) w' (fun e => e = b s))
    (hs : ∀ s w', Iv s → b s = true → R c w0 w' → Ext w.G w'.G → ∃ s', Iv s' ∧ μ s' < μ s ∧ On c (t { E with nx := Nx c w0 w.G (Γf s'), ct := Nx c w0 w.G (Γf s'), bk := u E }) (Γf s) w')
    (hd : ∀ s w', Iv s → b s = false → R c w0 w' → Ext w.G w'.G → On c (u E) (Γf s) w') : On c (tSeq (tWhile tt t) u E) Γ w :=
  on_while (E := { E with nx := u E }) r0 Γf μ Iv b s0 hΓ h0 ht hs hd
theorem str_eqv (a b : Str) : PyData.eqv (.str a) (.str b) = (a == b) := by simp [PyData.eqv]
theorem str_sh {w : Str} (h : PyData.strOk w = true) : SeqAt.shaped (.str w) = true := shaped_of (by simpa [PyData.canLay0] using h) (by simp [PyData.depth])
theorem int_sh (i : Int) : SeqAt.shaped (.int i) = true := shaped_of (by simp [PyData.canLay0]) (by simp [PyData.depth])
/-- x == y of ints -/
theorem ev_eqI {i j : Int} (ha : EvE c ta Γ w (.int i)) (hb : EvE c tb Γ w (.int j)) : EvE c (tOp (rEqD K) ta tb) Γ w (.bool (decide (i = j))) := EvD.to (ev_ope ha hb (rd_eq (int_sh i) (int_sh j))) (by rw [int_eqv])
theorem ev_neI {i j : Int} (ha : EvE c ta Γ w (.int i)) (hb : EvE c tb Γ w (.int j)) : EvE c (tOp (rNeD K) ta tb) Γ w (.bool (!decide (i = j))) := EvD.to (ev_ope ha hb (rd_ne (int_sh i) (int_sh j))) (by rw [int_eqv])
theorem ev_eqS {a b : Str} (h1 : PyData.strOk a = true) (h2 : PyData.strOk b = true) (ha : EvE c ta Γ w (.str a)) (hb : EvE c tb Γ w (.str b)) : EvE c (tOp (rEqD K) ta tb) Γ w (.bool (a == b)) := EvD.to (ev_ope ha hb (rd_eq (str_sh h1) (str_sh h2))) (by rw [str_eqv])
/-- t[j], xs[j] -/
theorem ev_ixT {ds : List PyData} {d : PyData} (j : Nat) (ha : EvE c ta Γ w (.tuple ds)) (hb : EvE c tb Γ w (.int (j : Int))) (h : ds[j]? = some d) : EvE c (tOp (rIxT K) ta tb) Γ w d := ev_ope ha hb (rd_ixT h)
theorem ev_ixL {ds : List PyData} {d : PyData} (j : Nat) (ha : EvE c ta Γ w (.list ds)) (hb : EvE c tb Γ w (.int (j : Int))) (h : ds[j]? = some d) : EvE c (tOp (rIxL K) ta tb) Γ w d := ev_ope ha hb (rd_ixL h)
/-- t[0] == 'word' -/
theorem et_word {a b : Str} {ds : List PyData} (h : EvE c te Γ w (.tuple (.str a :: ds))) (h1 : PyData.strOk a = true) (h2 : PyData.strOk b = true) :
    EvT c (tTest (tOp (rEqD K) (tOp (rIxT K) te (tC (.int 0))) (tC (.str b)))) Γ w (fun e => e = (a == b)) := et_test (ev_eqS h1 h2 (ev_ixT 0 h ev_int rfl) ev_str)
theorem ev_lenT {ds : List PyData} {n : Nat} (h : EvE c te Γ w (.tuple ds)) (hn : ds.length = n) : EvE c (tCB (fun xs H Q => ∃ p ys, xs = [.ref p] ∧ (SqL K H p ys ∨ SqT K H p ys) ∧ Q (.int ys.length) H) (tCons te tNil)) Γ w (.int (n : Int)) := hn ▸ ev_len (.inr (ea_conse h ea_nil))
theorem ev_lenL {ds : List PyData} {n : Nat} (h : EvE c te Γ w (.list ds)) (hn : ds.length = n) : EvE c (tCB (fun xs H Q => ∃ p ys, xs = [.ref p] ∧ (SqL K H p ys ∨ SqT K H p ys) ∧ Q (.int ys.length) H) (tCons te tNil)) Γ w (.int (n : Int)) := hn ▸ ev_len (.inl (ea_conse h ea_nil))
theorem ev_tr2 {a b : TE} (h1 : EvE c a Γ w (.bool true)) (h2 : EvE c b Γ w (.bool true)) : EvE c (tAndV a b) Γ w (.bool true) := ev_and (a := true) (b := true) h1 fun _ => h2
theorem pow_ok {i j : Int} (h1 : 0 ≤ j) (h2 : j ≤ 1000000) (h3 : i.natAbs < 2 ^ 64) : CPow i j := ⟨h1, h2, h3⟩
theorem ev_pow {i j : Int} (h1 : 0 ≤ j) (h2 : j ≤ 1000000) (h3 : i.natAbs < 2 ^ 64) {k : Int} (e : i ^ j.toNat = k) : EvE c (tOp (rI CPow fun i j => .int (i ^ j.toNat)) (tC (.int i)) (tC (.int j))) Γ w (.int k) := e ▸ ev_ope ev_int ev_int (rd_ic (C := CPow) (g := fun i j => i ^ j.toNat) (pow_ok h1 h2 h3))
theorem ev_nilL : EvE c (tLst tNil) Γ w (.list []) := EvN.eve ((ev_lst ea_nil fun ds h => by rw [h]; simp).imp fun ds h => h)
theorem ev_nilN : EvN c (tLst tNil) Γ w (fun e => e = []) := ev_lst ea_nil fun ds h => by rw [h]; simp
/-- all([..]) where each holds -/
theorem ev_allT {α : Type} {wi : TI} {g : TG} {vs js : List Nat} (xs : List α) (enc : α → PyData) (hi : EvI c wi Γ w (xs.map enc)) (hz : xs.length ≤ 100000) (hj : ∀ j ∈ js, j ∈ vs) (Γx : α → List De)
    (tg : ∀ x ∈ xs, Tg g js (enc x) (wipeG Γ vs) (Γx x)) (he : ∀ x ∈ xs, EvE c te (Γx x) w (.bool true)) : EvE c (tCB (rAll K) (tCons (tLc wi g tYes te vs) tNil)) Γ w (.bool true) := by
  have h := EvN.eve (ev_lc xs enc hi hz hj Γx (fun _ => .bool true) tg he)
  have e : (xs.map fun _ => PyData.bool true) = (xs.map fun _ => true).map PyData.bool := by rw [List.map_map]; rfl
  rw [e] at h
  refine EvD.to (ev_all (ea_conse h ea_nil)) ?_
  congr 1
  induction xs with
  | nil => rfl
  | cons x xs ih => simp
end
end U
end

section
set_option maxRecDepth 100000
set_option maxHeartbeats 4000000
/-! Formulas as data. -/
namespace U
open PySem PySem.Spec PyProof.Rows L2
/-- a word, the numbers behind it, how many inner formulas follow, the place it tells -/
inductive Wd : Str → List PyData → Nat → List (Nat × Nat) → Prop
  | num (n : Int) : n.natAbs < 1000000 → Wd "num" [.int n] 0 []
  | worth (p k : Nat) : Wd "worth" [.int (p : Int), .int (k : Int)] 0 [(p, k)]
  | sum : Wd "sum" [] 2 []
  | less : Wd "less" [] 2 []
  | least : Wd "least" [] 2 []
  | greatest : Wd "greatest" [] 2 []
  | pick : Wd "pick" [] 3 []
  | times (n : Int) : n.natAbs < 10000 → Wd "times" [.int n] 1 []
  | rest (n : Int) : 0 < n → n < 10000 → Wd "rest" [.int n] 1 []
mutual
/-- a formula of at most h floors, of s words, of these places -/
inductive Fm : Nat → PyData → Nat → List (Nat × Nat) → Prop
  | mk {w : Str} {pre bs : List PyData} {m h s : Nat} {own ns : List (Nat × Nat)} : Wd w pre m own → bs.length = m → Fms h bs s ns → Fm (h + 1) (.tuple (.str w :: (pre ++ bs))) (s + 1) (own ++ ns)
inductive Fms : Nat → List PyData → Nat → List (Nat × Nat) → Prop
  | nil {h : Nat} : Fms h [] 0 []
  | cons {d : PyData} {ds : List PyData} {h s t : Nat} {ns ms : List (Nat × Nat)} : Fm h d s ns → Fms h ds t ms → Fms h (d :: ds) (s + t) (ns ++ ms)
end
/-- the view of it: word, numbers, inner ones -/
def Sh (d : PyData) (w : Str) (pre bs : List PyData) (own : List (Nat × Nat)) : Prop := Wd w pre bs.length own ∧ d = .tuple (.str w :: (pre ++ bs))
theorem Wd.m3 {w : Str} {pre : List PyData} {m : Nat} {own : List (Nat × Nat)} (h : Wd w pre m own) : m ≤ 3 := by cases h <;> omega
theorem Wd.pre2 {w : Str} {pre : List PyData} {m : Nat} {own : List (Nat × Nat)} (h : Wd w pre m own) : pre.length ≤ 2 := by cases h <;> simp
theorem fms0 {ds : List PyData} {s : Nat} {ns : List (Nat × Nat)} (h : Fms 0 ds s ns) : ds = [] := by
  cases h with
  | nil => rfl
  | cons h1 _ => cases h1
/-- so many words at most -/
theorem fms_size {h b : Nat} (hb : ∀ d s ns, Fm h d s ns → s ≤ b) : ∀ {ds : List PyData} {s : Nat} {ns : List (Nat × Nat)}, Fms h ds s ns → s ≤ ds.length * b := by
  intro ds
  induction ds with
  | nil => intro s ns h; cases h; simp
  | cons d ds ih =>
    intro s ns h
    cases h with
    | cons h1 h2 =>
      have a := hb _ _ _ h1
      have b := ih h2
      rw [List.length_cons, Nat.succ_mul]
      omega
theorem fm_size1 {d : PyData} {s : Nat} {ns : List (Nat × Nat)} (h : Fm 1 d s ns) : s ≤ 1 := by
  cases h with
  | mk hw hl hs =>
    have := fms0 hs
    subst this
    cases hs
    omega
theorem fm_size2 {d : PyData} {s : Nat} {ns : List (Nat × Nat)} (h : Fm 2 d s ns) : s ≤ 4 := by
  cases h with
  | mk hw hl hs =>
    have a := fms_size (fun d s ns h => fm_size1 h) hs
    have b := hw.m3
    omega
theorem fm_size3 {d : PyData} {s : Nat} {ns : List (Nat × Nat)} (h : Fm 3 d s ns) : s ≤ 13 := by
  cases h with
  | mk hw hl hs =>
    have a := fms_size (fun d s ns h => fm_size2 h) hs
    have b := hw.m3
    omega
theorem Wd.ok {w : Str} {pre : List PyData} {m : Nat} {own : List (Nat × Nat)} (h : Wd w pre m own) : PyData.strOk w = true := by cases h <;> decide +kernel
theorem Wd.pre_lay {w : Str} {pre : List PyData} {m : Nat} {own : List (Nat × Nat)} (h : Wd w pre m own) (bs : List PyData) : PyData.canLayAll0 (pre ++ bs) = PyData.canLayAll0 bs ∧ PyData.depthAll (pre ++ bs) = PyData.depthAll bs := by cases h <;> simp [PyData.canLayAll0, PyData.depthAll, PyData.canLay0, PyData.depth]
mutual
theorem fm_lay : ∀ {h : Nat} {d : PyData} {s : Nat} {ns : List (Nat × Nat)}, Fm h d s ns → d.canLay0 = true ∧ d.depth ≤ h
  | _, _, _, _, .mk hw hl hs => by
    have := fms_lay hs
    have a := hw.ok
    have b := hw.pre_lay
    simp [PyData.canLay0, PyData.canLayAll0, PyData.depth, PyData.depthAll, a, b, this]
theorem fms_lay : ∀ {h : Nat} {d : List PyData} {s : Nat} {ns : List (Nat × Nat)}, Fms h d s ns → PyData.canLayAll0 d = true ∧ PyData.depthAll d ≤ h
  | _, _, _, _, .nil => by simp [PyData.canLayAll0, PyData.depthAll]
  | _, _, _, _, .cons h1 h2 => by
    have a := fm_lay h1
    have b := fms_lay h2
    simp [PyData.canLayAll0, PyData.depthAll, a, b]
    omega
end
theorem fms_app {h : Nat} : ∀ {ds es : List PyData} {s t : Nat} {ns ms : List (Nat × Nat)}, Fms h ds s ns → Fms h es t ms → Fms h (ds ++ es) (s + t) (ns ++ ms)
  | _, _, _, _, _, _, .nil, h2 => by simpa using h2
  | _, _, _, _, _, _, .cons h1 h2, h3 => by
    rw [List.cons_append, Nat.add_assoc, List.append_assoc]
    exact .cons h1 (fms_app h2 h3)
end U
end

section
set_option maxRecDepth 100000
set_option maxHeartbeats 4000000
/-! Books as data. -/
namespace U
open PySem PySem.Spec PyProof.Rows L2
abbrev Rl := KM.Rule PyData
def pD (p : Nat × Nat) : PyData := .tuple [.int (p.1 : Int), .int (p.2 : Int)]
def iD (n : Nat) : PyData := .int (n : Int)
def rD (r : Rl) : PyData := .tuple [.int (r.sign : Int), .tuple (r.parts.map iD), .list r.fs]
def bD (sg : List (Nat × Nat)) (rs : List Rl) : PyData := .tuple [.list (sg.map pD), .list (rs.map rD)]
/-- the places told by a rule of this sign and these parts -/
def toldN (sg : List (Nat × Nat)) (sign : Nat) (parts : List Nat) : List (Nat × Nat) :=
  parts.zipIdx.foldl (fun l q => l ++ (List.range (sg.getD q.1 (0, 0)).1).map fun k => (q.2 + 1, k)) ((List.range (sg.getD sign (0, 0)).2).map fun k => (0, (sg.getD sign (0, 0)).1 + k))
/-- how many worths a place has -/
def wop (sg : List (Nat × Nat)) (sign : Nat) (parts : List Nat) (p : Nat) : Nat :=
  match (sign :: parts)[p]? with
  | some q => (sg.getD q (0, 0)).1 + (sg.getD q (0, 0)).2
  | none => 0
/-- signs that may stand in a book -/
structure SgOk (sg : List (Nat × Nat)) : Prop where
  l1 : 1 ≤ sg.length
  l4 : sg.length ≤ 4
  p2 : ∀ p ∈ sg, p.1 ≤ 2 ∧ p.2 ≤ 2
/-- a formula of these places -/
def FmOk (sg : List (Nat × Nat)) (sign : Nat) (parts : List Nat) (d : PyData) : Prop := ∃ s ns, Fm 3 d s ns ∧ ns.length ≤ 1000 ∧ ∀ q ∈ ns, q.2 < wop sg sign parts q.1
structure RlOk (sg : List (Nat × Nat)) (r : Rl) : Prop where
  sg_lt : r.sign < sg.length
  p2 : r.parts.length ≤ 2
  pt : ∀ p ∈ r.parts, p < sg.length
  fl : r.fs.length = (toldN sg r.sign r.parts).length
  fm : ∀ d ∈ r.fs, FmOk sg r.sign r.parts d
structure BOk (sg : List (Nat × Nat)) (rs : List Rl) : Prop where
  s : SgOk sg
  r8 : rs.length ≤ 8
  r : ∀ r ∈ rs, RlOk sg r
theorem getMap {α : Type} {f : α → PyData} {xs : List α} {i : Nat} {x : α} (h : xs[i]? = some x) : (xs.map f)[i]? = some (f x) := by rw [List.getElem?_map, h]; rfl
theorem getSg {sg : List (Nat × Nat)} {i : Nat} (h : i < sg.length) : (sg.map pD)[i]? = some (pD (sg.getD i (0, 0))) := getMap (by rw [List.getD_eq_getElem?_getD, List.getElem?_eq_getElem h]; rfl)
theorem SgOk.at {sg : List (Nat × Nat)} (h : SgOk sg) (i : Nat) : (sg.getD i (0, 0)).1 ≤ 2 ∧ (sg.getD i (0, 0)).2 ≤ 2 := by
  rw [List.getD_eq_getElem?_getD]
  cases e : sg[i]? with
  | none => simp
  | some p => exact h.p2 p (List.mem_of_getElem? e)
theorem enum_map {α : Type} (f : α → PyData) (xs : List α) : ((xs.map f).zipIdx.map fun p => PyData.tuple [.int (p.2 : Int), p.1]) = xs.zipIdx.map fun p => .tuple [.int (p.2 : Int), f p.1] := by
  rw [List.zipIdx_map, List.map_map]
  rfl
theorem zip_map {α β : Type} (f : α → PyData) (g : β → PyData) (xs : List α) (ys : List β) : (((xs.map f).zip (ys.map g)).map fun p => PyData.tuple [p.1, p.2]) = (xs.zip ys).map fun p => .tuple [f p.1, g p.2] := by
  rw [List.zip_map, List.map_map]
  rfl
theorem iD_map (ns : List Nat) : ns.map iD = (ns.map fun (n : Nat) => (n : Int)).map PyData.int := by rw [List.map_map]; rfl
/-- the number of the places told -/
theorem foldl_app_len {α β : Type} (f : α → List β) (b : Nat) : ∀ (xs : List α) (l : List β), (∀ x ∈ xs, (f x).length ≤ b) → (xs.foldl (fun l x => l ++ f x) l).length ≤ l.length + xs.length * b
  | [], l, _ => by simp
  | x :: xs, l, h => by
    have h1 := foldl_app_len f b xs (l ++ f x) fun y hy => h y (List.mem_cons_of_mem _ hy)
    have h2 := h x List.mem_cons_self
    rw [List.foldl_cons]
    rw [List.length_append] at h1
    rw [List.length_cons, Nat.succ_mul]
    omega
theorem told_len {sg : List (Nat × Nat)} (h : SgOk sg) (sign : Nat) {parts : List Nat} (hp : parts.length ≤ 2) : (toldN sg sign parts).length ≤ 6 := by
  have a := foldl_app_len (fun q : Nat × Nat => (List.range (sg.getD q.1 (0, 0)).1).map fun k => (q.2 + 1, k)) 2 parts.zipIdx ((List.range (sg.getD sign (0, 0)).2).map fun k => (0, (sg.getD sign (0, 0)).1 + k)) (fun x _ => by
    rw [List.length_map, List.length_range]; exact (h.at x.1).1)
  have b := (h.at sign).2
  rw [List.length_map, List.length_range, List.length_zipIdx] at a
  unfold toldN
  omega
end U
end

section
set_option maxRecDepth 100000
set_option maxHeartbeats 4000000
/-! The text of the program: its defs' slots, and what the top has written. -/
namespace U
open PySem PySem.Spec PyProof.Rows L2
def topS (i : Nat) : Stmt := PySem.Challenge.pw_updownworths_k12_whole_books_cut.main.body.getD i (.Pass ⟨0, 0, 0, 0⟩)
abbrev s_is_number : Stmt := topS 9
abbrev N_is_number : List Str := ["thing"]
theorem sc_is_number : FnScope N_is_number ["thing"] (defScope s_is_number) := ⟨rfl, rfl, rfl, by decide +kernel, rfl, by decide +kernel, by decide +kernel⟩
abbrev s_numbers_fit : Stmt := topS 10
abbrev N_numbers_fit : List Str := ["thing", "part"]
theorem sc_numbers_fit : FnScope N_numbers_fit ["thing"] (defScope s_numbers_fit) := ⟨rfl, rfl, rfl, by decide +kernel, rfl, by decide +kernel, by decide +kernel⟩
abbrev s_inner_of : Stmt := topS 11
abbrev N_inner_of : List Str := ["formula", "many"]
theorem sc_inner_of : FnScope N_inner_of ["formula"] (defScope s_inner_of) := ⟨rfl, rfl, rfl, by decide +kernel, rfl, by decide +kernel, by decide +kernel⟩
abbrev s_deep_of : Stmt := topS 12
abbrev N_deep_of : List Str := ["thing", "deep", "part"]
theorem sc_deep_of : FnScope N_deep_of ["thing", "deep"] (defScope s_deep_of) := ⟨rfl, rfl, rfl, by decide +kernel, rfl, by decide +kernel, by decide +kernel⟩
abbrev s_is_formula : Stmt := topS 13
abbrev N_is_formula : List Str := ["thing"]
theorem sc_is_formula : FnScope N_is_formula ["thing"] (defScope s_is_formula) := ⟨rfl, rfl, rfl, by decide +kernel, rfl, by decide +kernel, by decide +kernel⟩
abbrev s_names_in : Stmt := topS 14
abbrev N_names_in : List Str := ["formula", "found", "part"]
theorem sc_names_in : FnScope N_names_in ["formula"] (defScope s_names_in) := ⟨rfl, rfl, rfl, by decide +kernel, rfl, by decide +kernel, by decide +kernel⟩
abbrev s_is_from : Stmt := topS 20
abbrev N_is_from : List Str := ["thing", "low", "high"]
theorem sc_is_from : FnScope N_is_from ["thing", "low", "high"] (defScope s_is_from) := ⟨rfl, rfl, rfl, by decide +kernel, rfl, by decide +kernel, by decide +kernel⟩
abbrev s_is_sign : Stmt := topS 21
abbrev N_is_sign : List Str := ["thing", "part"]
theorem sc_is_sign : FnScope N_is_sign ["thing"] (defScope s_is_sign) := ⟨rfl, rfl, rfl, by decide +kernel, rfl, by decide +kernel, by decide +kernel⟩
abbrev s_worths_of_place : Stmt := topS 22
abbrev N_worths_of_place : List Str := ["signs", "rule", "place", "places"]
theorem sc_worths_of_place : FnScope N_worths_of_place ["signs", "rule", "place"] (defScope s_worths_of_place) := ⟨rfl, rfl, rfl, by decide +kernel, rfl, by decide +kernel, by decide +kernel⟩
abbrev s_names_told : Stmt := topS 23
abbrev N_names_told : List Str := ["signs", "rule", "downs", "ups", "found", "place", "part", "k"]
theorem sc_names_told : FnScope N_names_told ["signs", "rule"] (defScope s_names_told) := ⟨rfl, rfl, rfl, by decide +kernel, rfl, by decide +kernel, by decide +kernel⟩
abbrev s_is_making : Stmt := topS 24
abbrev N_is_making : List Str := ["signs", "rule", "thing", "place", "number"]
theorem sc_is_making : FnScope N_is_making ["signs", "rule", "thing"] (defScope s_is_making) := ⟨rfl, rfl, rfl, by decide +kernel, rfl, by decide +kernel, by decide +kernel⟩
abbrev s_is_rule : Stmt := topS 25
abbrev N_is_rule : List Str := ["signs", "thing", "part"]
theorem sc_is_rule : FnScope N_is_rule ["signs", "thing"] (defScope s_is_rule) := ⟨rfl, rfl, rfl, by decide +kernel, rfl, by decide +kernel, by decide +kernel⟩
abbrev s_is_book : Stmt := topS 26
abbrev N_is_book : List Str := ["thing", "signs", "rules", "sign", "rule", "part"]
theorem sc_is_book : FnScope N_is_book ["thing"] (defScope s_is_book) := ⟨rfl, rfl, rfl, by decide +kernel, rfl, by decide +kernel, by decide +kernel⟩
abbrev s_look_at_book : Stmt := topS 27
abbrev N_look_at_book : List Str := ["thing"]
theorem sc_look_at_book : FnScope N_look_at_book ["thing"] (defScope s_look_at_book) := ⟨rfl, rfl, rfl, by decide +kernel, rfl, by decide +kernel, by decide +kernel⟩
abbrev s_look_at_sign : Stmt := topS 28
abbrev N_look_at_sign : List Str := ["book", "sign"]
theorem sc_look_at_sign : FnScope N_look_at_sign ["book", "sign"] (defScope s_look_at_sign) := ⟨rfl, rfl, rfl, by decide +kernel, rfl, by decide +kernel, by decide +kernel⟩
abbrev s_lesser_tree : Stmt := topS 29
abbrev N_lesser_tree : List Str := ["one", "other"]
theorem sc_lesser_tree : FnScope N_lesser_tree ["one", "other"] (defScope s_lesser_tree) := ⟨rfl, rfl, rfl, by decide +kernel, rfl, by decide +kernel, by decide +kernel⟩
abbrev s_least_trees : Stmt := topS 30
abbrev N_least_trees : List Str := ["book", "found", "grown", "rule", "sign", "parts", "makings", "boughs", "told", "part", "bough"]
theorem sc_least_trees : FnScope N_least_trees ["book"] (defScope s_least_trees) := ⟨rfl, rfl, rfl, by decide +kernel, rfl, by decide +kernel, by decide +kernel⟩
abbrev s_least_tree : Stmt := topS 31
abbrev N_least_tree : List Str := ["book", "sign", "told"]
theorem sc_least_tree : FnScope N_least_tree ["book", "sign"] (defScope s_least_tree) := ⟨rfl, rfl, rfl, by decide +kernel, rfl, by decide +kernel, by decide +kernel⟩
abbrev s_alive_rules : Stmt := topS 32
abbrev N_alive_rules : List Str := ["book", "made", "told", "rule", "part"]
theorem sc_alive_rules : FnScope N_alive_rules ["book"] (defScope s_alive_rules) := ⟨rfl, rfl, rfl, by decide +kernel, rfl, by decide +kernel, by decide +kernel⟩
abbrev s_useful_rules : Stmt := topS 33
abbrev N_useful_rules : List Str := ["book", "alive", "come", "grown", "rule", "sign", "parts", "makings", "part"]
theorem sc_useful_rules : FnScope N_useful_rules ["book"] (defScope s_useful_rules) := ⟨rfl, rfl, rfl, by decide +kernel, rfl, by decide +kernel, by decide +kernel⟩
abbrev s_cut_book : Stmt := topS 34
abbrev N_cut_book : List Str := ["book", "kept", "rule"]
theorem sc_cut_book : FnScope N_cut_book ["book"] (defScope s_cut_book) := ⟨rfl, rfl, rfl, by decide +kernel, rfl, by decide +kernel, by decide +kernel⟩
abbrev s_choices_of : Stmt := topS 38
abbrev N_choices_of : List Str := ["rows", "found", "row", "longer", "some", "one"]
theorem sc_choices_of : FnScope N_choices_of ["rows"] (defScope s_choices_of) := ⟨rfl, rfl, rfl, by decide +kernel, rfl, by decide +kernel, by decide +kernel⟩
abbrev s_parted : Stmt := topS 39
abbrev N_parted : List Str := ["total", "many", "found", "first", "rest"]
theorem sc_parted : FnScope N_parted ["total", "many"] (defScope s_parted) := ⟨rfl, rfl, rfl, by decide +kernel, rfl, by decide +kernel, by decide +kernel⟩
abbrev s_tree_counts : Stmt := topS 40
abbrev N_tree_counts : List Str := ["book", "most", "rows", "knots", "fresh", "sign", "parts", "makings", "split", "ways", "count", "part"]
theorem sc_tree_counts : FnScope N_tree_counts ["book", "most"] (defScope s_tree_counts) := ⟨rfl, rfl, rfl, by decide +kernel, rfl, by decide +kernel, by decide +kernel⟩
abbrev s_trees_of : Stmt := topS 41
abbrev N_trees_of : List Str := ["book", "counts", "sign", "knots", "found", "rule", "made", "parts", "makings", "split", "rows", "count", "part", "boughs"]
theorem sc_trees_of : FnScope N_trees_of ["book", "counts", "sign", "knots"] (defScope s_trees_of) := ⟨rfl, rfl, rfl, by decide +kernel, rfl, by decide +kernel, by decide +kernel⟩
abbrev s_trees_to : Stmt := topS 42
abbrev N_trees_to : List Str := ["book", "sign", "most", "counts", "found", "knots", "row"]
theorem sc_trees_to : FnScope N_trees_to ["book", "sign", "most"] (defScope s_trees_to) := ⟨rfl, rfl, rfl, by decide +kernel, rfl, by decide +kernel, by decide +kernel⟩
abbrev s__law_mixed : Stmt := topS 44
abbrev N__law_mixed : List Str := ["_law_cell_here", "_law_k", "_law_number"]
theorem sc__law_mixed : FnScope N__law_mixed ["_law_cell_here", "_law_k"] (defScope s__law_mixed) := ⟨rfl, rfl, rfl, by decide +kernel, rfl, by decide +kernel, by decide +kernel⟩
abbrev s__law_cell : Stmt := topS 45
abbrev N__law_cell : List Str := ["_law_script", "_law_k", "_law_cell_here", "_law_found", "_law_j"]
theorem sc__law_cell : FnScope N__law_cell ["_law_script", "_law_k"] (defScope s__law_cell) := ⟨rfl, rfl, rfl, by decide +kernel, rfl, by decide +kernel, by decide +kernel⟩
abbrev s__law_take : Stmt := topS 46
abbrev N__law_take : List Str := ["_law_pile", "_law_size", "_law_digit"]
theorem sc__law_take : FnScope N__law_take ["_law_pile", "_law_size"] (defScope s__law_take) := ⟨rfl, rfl, rfl, by decide +kernel, rfl, by decide +kernel, by decide +kernel⟩
abbrev s__law_formula : Stmt := topS 47
abbrev N__law_formula : List Str := ["_law_pile", "_law_names_here", "_law_deep", "_law_way", "_law_word", "_law_inner", "_law_k"]
theorem sc__law_formula : FnScope N__law_formula ["_law_pile", "_law_names_here", "_law_deep"] (defScope s__law_formula) := ⟨rfl, rfl, rfl, by decide +kernel, rfl, by decide +kernel, by decide +kernel⟩
abbrev s__law_told : Stmt := topS 48
abbrev N__law_told : List Str := ["_law_signs", "_law_sign", "_law_parts", "_law_downs", "_law_ups", "_law_found", "_law_place", "_law_part", "_law_k"]
theorem sc__law_told : FnScope N__law_told ["_law_signs", "_law_sign", "_law_parts"] (defScope s__law_told) := ⟨rfl, rfl, rfl, by decide +kernel, rfl, by decide +kernel, by decide +kernel⟩
abbrev s__law_names : Stmt := topS 49
abbrev N__law_names : List Str := ["_law_signs", "_law_sign", "_law_parts", "_law_free", "_law_found", "_law_place", "_law_part", "_law_told_here", "_law_name", "_law_k"]
theorem sc__law_names : FnScope N__law_names ["_law_signs", "_law_sign", "_law_parts", "_law_free"] (defScope s__law_names) := ⟨rfl, rfl, rfl, by decide +kernel, rfl, by decide +kernel, by decide +kernel⟩
abbrev s__law_rule : Stmt := topS 50
abbrev N__law_rule : List Str := ["_law_pile", "_law_signs", "_law_sign", "_law_most", "_law_free", "_law_parts", "_law_names_here", "_law_k", "_law_name"]
theorem sc__law_rule : FnScope N__law_rule ["_law_pile", "_law_signs", "_law_sign", "_law_most", "_law_free"] (defScope s__law_rule) := ⟨rfl, rfl, rfl, by decide +kernel, rfl, by decide +kernel, by decide +kernel⟩
abbrev s__law_book : Stmt := topS 51
abbrev N__law_book : List Str := ["_law_script", "_law_start", "_law_pile", "_law_signs", "_law_leaves", "_law_free", "_law_rules_here", "_law_k", "_law_own", "_law_sign", "_law_most"]
theorem sc__law_book : FnScope N__law_book ["_law_script", "_law_start"] (defScope s__law_book) := ⟨rfl, rfl, rfl, by decide +kernel, rfl, by decide +kernel, by decide +kernel⟩
abbrev s__law_turned : Stmt := topS 52
abbrev N__law_turned : List Str := ["_law_tree", "_law_kept", "_law_bough"]
theorem sc__law_turned : FnScope N__law_turned ["_law_tree", "_law_kept"] (defScope s__law_turned) := ⟨rfl, rfl, rfl, by decide +kernel, rfl, by decide +kernel, by decide +kernel⟩
abbrev s__law_trees : Stmt := topS 53
abbrev N__law_trees : List Str := ["_law_book_here", "_law_most", "_law_found"]
theorem sc__law_trees : FnScope N__law_trees ["_law_book_here", "_law_most"] (defScope s__law_trees) := ⟨rfl, rfl, rfl, by decide +kernel, rfl, by decide +kernel, by decide +kernel⟩
abbrev s__law_rules : Stmt := topS 54
abbrev N__law_rules : List Str := ["_law_tree", "_law_found", "_law_bough"]
theorem sc__law_rules : FnScope N__law_rules ["_law_tree"] (defScope s__law_rules) := ⟨rfl, rfl, rfl, by decide +kernel, rfl, by decide +kernel, by decide +kernel⟩
abbrev s_law : Stmt := topS 55
abbrev N_law : List Str := ["_law_script", "_law_book_here", "_law_most", "_law_kept", "_law_cut", "_law_least", "_law_found", "_law_other", "_law_tree", "_law_rule_here"]
theorem sc_law : FnScope N_law ["_law_script"] (defScope s_law) := ⟨rfl, rfl, rfl, by decide +kernel, rfl, by decide +kernel, by decide +kernel⟩
/-- what the top has written -/
structure Txt (P : Program) (wd : World) (K : PySem.W.Frag) (mg : Str → Option Value) (dW : Addr) : Prop where
  len : mg "len" = none
  isinstance : mg "isinstance" = none
  int : mg "int" = none
  bool : mg "bool" = none
  str : mg "str" = none
  tuple : mg "tuple" = none
  list : mg "list" = none
  all : mg "all" = none
  sum : mg "sum" = none
  abs : mg "abs" = none
  range : mg "range" = none
  enumerate : mg "enumerate" = none
  zip : mg "zip" = none
  sorted : mg "sorted" = none
  g_MOST_PARTS_formulas : ∃ t, mg "MOST_PARTS_formulas" = some (.int 15 t)
  g_MOST_DEEP : ∃ t, mg "MOST_DEEP" = some (.int 4 t)
  g_MOST_SIGNS : ∃ t, mg "MOST_SIGNS" = some (.int 4 t)
  g_MOST_RULES : ∃ t, mg "MOST_RULES" = some (.int 8 t)
  g_MOST_WORTHS : ∃ t, mg "MOST_WORTHS" = some (.int 2 t)
  g_MOST_PARTS_books : ∃ t, mg "MOST_PARTS_books" = some (.int 2 t)
  g_MOST_LISTED : ∃ t, mg "MOST_LISTED" = some (.int 9 t)
  g_MOST_TREES : ∃ t, mg "MOST_TREES" = some (.int 300 t)
  g_WORDS : mg "WORDS" = some (.ref dW)
  words : ∃ es n, L2.KDict K wd dW es n
  w_sum : ∃ t, PySem.W.nsIn K dW "sum" = some (some (.int 2 t))
  w_less : ∃ t, PySem.W.nsIn K dW "less" = some (some (.int 2 t))
  w_least : ∃ t, PySem.W.nsIn K dW "least" = some (some (.int 2 t))
  w_greatest : ∃ t, PySem.W.nsIn K dW "greatest" = some (some (.int 2 t))
  w_pick : ∃ t, PySem.W.nsIn K dW "pick" = some (some (.int 3 t))
  w_times : ∃ t, PySem.W.nsIn K dW "times" = some (some (.int 1 t))
  w_rest : ∃ t, PySem.W.nsIn K dW "rest" = some (some (.int 1 t))
  w_num : ∃ t, PySem.W.nsIn K dW "num" = some (some (.int 0 t))
  w_worth : ∃ t, PySem.W.nsIn K dW "worth" = some (some (.int 0 t))
  int_bool : PySem.W.kitOne K (.type "int") (.type "bool") = some false
  d_is_number : DefT K mg "is_number" s_is_number ["thing"]
  d_numbers_fit : DefT K mg "numbers_fit" s_numbers_fit ["thing"]
  d_inner_of : DefT K mg "inner_of" s_inner_of ["formula"]
  d_deep_of : DefT K mg "deep_of" s_deep_of ["thing", "deep"]
  d_is_formula : DefT K mg "is_formula" s_is_formula ["thing"]
  d_names_in : DefT K mg "names_in" s_names_in ["formula"]
  d_is_from : DefT K mg "is_from" s_is_from ["thing", "low", "high"]
  d_is_sign : DefT K mg "is_sign" s_is_sign ["thing"]
  d_worths_of_place : DefT K mg "worths_of_place" s_worths_of_place ["signs", "rule", "place"]
  d_names_told : DefT K mg "names_told" s_names_told ["signs", "rule"]
  d_is_making : DefT K mg "is_making" s_is_making ["signs", "rule", "thing"]
  d_is_rule : DefT K mg "is_rule" s_is_rule ["signs", "thing"]
  d_is_book : DefT K mg "is_book" s_is_book ["thing"]
  d_look_at_book : DefT K mg "look_at_book" s_look_at_book ["thing"]
  d_look_at_sign : DefT K mg "look_at_sign" s_look_at_sign ["book", "sign"]
  d_lesser_tree : DefT K mg "lesser_tree" s_lesser_tree ["one", "other"]
  d_least_trees : DefT K mg "least_trees" s_least_trees ["book"]
  d_least_tree : DefT K mg "least_tree" s_least_tree ["book", "sign"]
  d_alive_rules : DefT K mg "alive_rules" s_alive_rules ["book"]
  d_useful_rules : DefT K mg "useful_rules" s_useful_rules ["book"]
  d_cut_book : DefT K mg "cut_book" s_cut_book ["book"]
  d_choices_of : DefT K mg "choices_of" s_choices_of ["rows"]
  d_parted : DefT K mg "parted" s_parted ["total", "many"]
  d_tree_counts : DefT K mg "tree_counts" s_tree_counts ["book", "most"]
  d_trees_of : DefT K mg "trees_of" s_trees_of ["book", "counts", "sign", "knots"]
  d_trees_to : DefT K mg "trees_to" s_trees_to ["book", "sign", "most"]
  d__law_mixed : DefT K mg "_law_mixed" s__law_mixed ["_law_cell_here", "_law_k"]
  d__law_cell : DefT K mg "_law_cell" s__law_cell ["_law_script", "_law_k"]
  d__law_take : DefT K mg "_law_take" s__law_take ["_law_pile", "_law_size"]
  d__law_formula : DefT K mg "_law_formula" s__law_formula ["_law_pile", "_law_names_here", "_law_deep"]
  d__law_told : DefT K mg "_law_told" s__law_told ["_law_signs", "_law_sign", "_law_parts"]
  d__law_names : DefT K mg "_law_names" s__law_names ["_law_signs", "_law_sign", "_law_parts", "_law_free"]
  d__law_rule : DefT K mg "_law_rule" s__law_rule ["_law_pile", "_law_signs", "_law_sign", "_law_most", "_law_free"]
  d__law_book : DefT K mg "_law_book" s__law_book ["_law_script", "_law_start"]
  d__law_turned : DefT K mg "_law_turned" s__law_turned ["_law_tree", "_law_kept"]
  d__law_trees : DefT K mg "_law_trees" s__law_trees ["_law_book_here", "_law_most"]
  d__law_rules : DefT K mg "_law_rules" s__law_rules ["_law_tree"]
  d_law : DefT K mg "law" s_law ["_law_script"]
end U
end

section
set_option maxRecDepth 100000
set_option maxHeartbeats 4000000
/-! The layer of data, sixth part: a dict of one's own; entries of the least trees as data. -/
namespace U
open PySem PySem.Spec PyProof.Rows L2 HT2
abbrev keyL (ks : List Nat) : List (Key × V) := ks.map fun (k : Nat) => ((.inl (k : Int) : Key), V.bl true)
theorem val_keys (k : Nat) : ∀ ks : List Nat, (valV (keyL ks) (.inl (k : Int))).isSome = decide (k ∈ ks)
  | [] => rfl
  | x :: ks => by
    by_cases e : x = k
    · subst e
      rw [show keyL (x :: ks) = ((.inl (x : Int) : Key), V.bl true) :: keyL ks from rfl, valV_pos rfl]
      simp
    · rw [show keyL (x :: ks) = ((.inl (x : Int) : Key), V.bl true) :: keyL ks from rfl, valV_neg (fun z => e (by have := Sum.inl.inj z; omega)), val_keys k ks]
      simp [Ne.symm e]
theorem put_keys (k : Nat) (ks : List Nat) (h : k ∉ ks) : putK (keyL ks) (.inl (k : Int)) (.bl true) = keyL (ks ++ [k]) := by
  unfold putK
  rw [if_neg]
  · exact (List.map_append (l₁ := ks) (l₂ := [k])).symm
  · rw [valV_any, val_keys, decide_eq_false h]
    simp
section
variable {K : PySem.W.Frag} {c : Option Addr} {Γ Γ' : List De} {w w0 w' : Wo} {te ta tb tl : TE} {tt : TT} {tr : TA} {t u : TS} {E : Ends} {k : L2.St → Hp → Prop}
theorem ev_dIn {i k : Nat} {a : Addr} {ks : List Nat} (hi : Γ[i]? = some (.md a ks)) (ha : EvE c ta Γ w (.int (k : Int))) : EvE c (tDIn ta (tVar i)) Γ w (.bool (decide (k ∈ ks))) := fun w1 σ r s Q q => ha w1 σ r s _ fun v w2 r2 ⟨e, he, hd⟩ => by
  subst he
  obtain ⟨x, h1, h2⟩ := (s.mono r2).get hi
  obtain ⟨h2, h3, h4, h5⟩ := h2
  subst h2
  refine ⟨.ref a, h1, a, valV (keyL ks) (.inl (k : Int)), rfl, ?_, ?_⟩
  · rw [hd.intV]; exact DGet.k (k := .inl (k : Int)) h5
  · rw [val_keys]; exact q _ w2 r2 ⟨_, rfl, .bl _⟩
theorem ev_dNin {i k : Nat} {a : Addr} {ks : List Nat} (hi : Γ[i]? = some (.md a ks)) (ha : EvE c ta Γ w (.int (k : Int))) : EvE c (tDNotIn ta (tVar i)) Γ w (.bool (!decide (k ∈ ks))) := fun w1 σ r s Q q => ha w1 σ r s _ fun v w2 r2 ⟨e, he, hd⟩ => by
  subst he
  obtain ⟨x, h1, h2⟩ := (s.mono r2).get hi
  obtain ⟨h2, h3, h4, h5⟩ := h2
  subst h2
  refine ⟨.ref a, h1, a, valV (keyL ks) (.inl (k : Int)), rfl, ?_, ?_⟩
  · rw [hd.intV]; exact DGet.k (k := .inl (k : Int)) h5
  · rw [val_keys]; exact q _ w2 r2 ⟨_, rfl, .bl _⟩
theorem Sl.putD {a : Addr} {ls : List Nat} (hG : w.G a = none) : ∀ {σ : L2.St} {Γ : List De} {i : Nat} {ks : List Nat}, Sl c w σ Γ → Γ[i]? = some (.md a ks) → Nm a (Γ.set i .no) → Sl c (w.put a (.dK (keyL ls)) hG) σ (Γ.set i (.md a ls))
  | _, _, i, ds, .nil _, h, _ => by simp at h
  | _, _, 0, ds, .cons (σ := σ) (Γ := Γ) h1 h2, h, hn => by
    simp at h
    subst h
    obtain ⟨q1, q2, _⟩ := h1
    refine .cons ⟨q1, q2, hG, upd_same⟩ ?_
    have go : ∀ {σ : L2.St} {Γ : List De}, Nm a Γ → Sl c w σ Γ → Sl c (w.put a (.dK (keyL ls)) hG) σ Γ := by
      intro σ Γ hn h
      induction h with
      | nil h => exact .nil fun b e => put_n hG (h b e)
      | cons p _ ih => exact .cons (De.put hG hn.1 p) (ih hn.2)
    exact go hn.2 h2
  | _, _, i + 1, ds, .cons h1 h2, h, hn => .cons (De.put hG hn.1 h1) (Sl.putD hG (i := i) (ks := ds) h2 (by simpa using h) hn.2)
/-- d[e] = True, of a key that is not there -/
theorem sq_dput {i k : Nat} {a : Addr} {ks : List Nat} (r0 : R c w0 w) (ha : w0.H a = none) (hi : Γ[i]? = some (.md a ks)) (hn : Nm a (Γ.set i .no)) (hx : EvE c tb Γ w (.int (k : Int))) (hk : k ∉ ks) (hz : ks.length ≤ 1000)
    (q : ∀ w1, R c w0 w1 → Ext w.G w1.G → On c (u E) (Γ.set i (.md a (ks ++ [k]))) w1) : On c (tSeq (sDPut (tVar i) tb (tC (.bl true))) u E) Γ w := fun σ s => by
  obtain ⟨x, h1, h2⟩ := s.get hi
  obtain ⟨h2, h3, h4⟩ := h2
  subst h2
  refine ⟨.ref a, h1, ?_⟩
  refine hx w σ (R.refl _ _) s _ fun y w1 r1 ⟨e, he, dy⟩ => ?_
  subst he
  obtain ⟨m1, m2⟩ := h4.mono r1 h3
  refine ⟨a, upd w1.H a (.dK (keyL (ks ++ [k]))), rfl, ?_, ?_⟩
  · rw [dy.intV, ← put_keys k ks hk]
    exact DPut.k (k := .inl (k : Int)) m2 (by rw [List.length_map]; exact small1000 hz)
  · exact q (w1.put a (.dK (keyL (ks ++ [k]))) m1) ((r0.trans r1).put ha m1) r1.g σ (Sl.putD m1 (s.mono r1) hi hn)
/-- d = {0: True} -/
theorem sq_disp {j : Nat} (q : ∀ a w1, R c w w1 → w.H a = none → On c (u E) (Γ.set j (.md a [0])) w1) : On c (tSeq (tAsg (tDisp [(tC (.int 0), tC (.bl true))]) (gName j)) u E) Γ w := fun σ s => by
  intro p hp
  refine ⟨upd_same, [((.inl 0 : Key), V.bl true)], rfl, by decide, ?_⟩
  have hG := w.out hp
  have e : upd (upd w.H p (.dK [])) p (.dK (mergeK [] [((.inl 0 : Key), V.bl true)])) = (w.put p (.dK (keyL [0])) hG).H := by
    funext b
    show upd (upd w.H p (.dK [])) p _ b = upd w.H p _ b
    by_cases hb : b = p
    · subst hb; rw [upd_same, upd_same]; rfl
    · rw [upd_ne hb, upd_ne hb, upd_ne hb]
  rw [e]
  have r : R c w (w.put p (.dK (keyL [0])) hG) := (R.refl _ _).put hp hG
  exact q p _ r hp _ (Sl.set (w := w.put p (.dK (keyL [0])) hG) (x := some (.ref p)) (e := .md p [0]) ⟨rfl, fun hc => s.cok p hc hp, hG, upd_same⟩ j (s.mono r))
end

/-! ### entries -/
def eD : Option (Nat × KM.T) → PyData
  | none => .none
  | some p => .tuple [.int (p.1 : Int), tD p.2]
theorem eqv_E (a b : Option (Nat × KM.T)) : PyData.eqv (eD a) (eD b) = decide (a = b) := by
  cases a with
  | none => cases b <;> simp [eD, PyData.eqv]
  | some p =>
    cases b with
    | none => simp [eD, PyData.eqv]
    | some q =>
      obtain ⟨k, t⟩ := p
      obtain ⟨k', t'⟩ := q
      have h := eqv_T t t'
      have h2 := int_eqv (k : Int) (k' : Int)
      simp only [eD]
      rw [show PyData.eqv (.tuple [.int (k : Int), tD t]) (.tuple [.int (k' : Int), tD t']) = (PyData.eqv (.int (k : Int)) (.int (k' : Int)) && (PyData.eqv (tD t) (tD t') && true)) by simp only [PyData.eqv, PyData.eqvAll], h, h2]
      by_cases e1 : k = k'
      · subst e1
        by_cases e2 : t = t'
        · subst e2; simp
        · simp [e2]
      · have : ¬ ((k : Int) = (k' : Int)) := by omega
        simp [e1, this]
theorem ltD_E (p q : Nat × KM.T) : ltD (eD (some p)) (eD (some q)) = KM.ltP p q := by
  obtain ⟨k, t⟩ := p
  obtain ⟨k', t'⟩ := q
  have h := eqv_T t t'
  have h2 := int_eqv (k : Int) (k' : Int)
  simp only [eD]
  unfold KM.ltP
  simp only [ltD, ltDs, h, h2, ltD_T, decide_eq_true_eq]
  by_cases e1 : k = k'
  · subst e1
    by_cases e2 : t = t' <;> simp [e2]
  · have : ¬ ((k : Int) = (k' : Int)) := by omega
    simp [e1, this]
theorem cm_E (p q : Nat × KM.T) : Cm (eD (some p)) (eD (some q)) := .tup (.cons (fun _ => .cons (fun _ => .nilL _) fun _ => cm_T _ _) fun _ => .int _ _)
theorem lay_E (a : Option (Nat × KM.T)) : (eD a).canLay0 = true := by
  cases a with
  | none => simp [eD, PyData.canLay0]
  | some p => simp [eD, PyData.canLay0, PyData.canLayAll0, lay_T]
theorem sh_E {a : Option (Nat × KM.T)} (h : ∀ p, a = some p → p.2.hgt ≤ 31) : SeqAt.shaped (eD a) = true := by
  refine shaped_of (lay_E a) ?_
  cases a with
  | none => simp [eD, PyData.depth]
  | some p =>
    have := h p rfl
    have := depth_T p.2
    simp [eD, PyData.depth, PyData.depthAll]
    omega
theorem isN_E (a : Option (Nat × KM.T)) : isN (eD a) = a.isNone := by cases a <;> rfl
end U
end

section
set_option maxRecDepth 100000
set_option maxHeartbeats 4000000
/-! The layer of data, seventh part: fixing a list; rows of counts; lists of trees. -/
namespace U
open PySem PySem.Spec PyProof.Rows L2 HT2
section
variable {K : PySem.W.Frag} {c : Option Addr} {Γ Γ' : List De} {w w0 w' : Wo} {te ta tb tl : TE} {tt : TT} {tr : TA} {t u : TS} {E : Ends} {k : L2.St → Hp → Prop} {D1 : PyData → Prop}
/-- from here on the list in slot j is data -/
theorem on_fix {j : Nat} {a : Addr} {ds : List PyData} (r0 : R c w0 w) (ha : w0.H a = none) (hj : Γ[j]? = some (.ml a ds)) (hn : Nm a (Γ.set j .no)) (q : ∀ w1, R c w0 w1 → Ext w.G w1.G → On c k (Γ.set j (.dat (.list ds))) w1) : On c k Γ w := fun σ s => by
  obtain ⟨x, h1, h2, h3, h4, xs, h5, h6⟩ := s.get hj
  exact q (w.frz a (.lst xs) h5) (r0.frz ha h5 h4) (ext_new h4) σ (Sl.frz h5 h4 h6 s hj hn)
/-- a list of one's own stands there -/
theorem on_has {j : Nat} {a : Addr} {ds : List PyData} (hj : Γ[j]? = some (.ml a ds)) (q : w.H a ≠ none → On c k Γ w) : On c k Γ w := fun σ s => by
  obtain ⟨x, h1, h2, h3, h4, xs, h5, h6⟩ := s.get hj
  exact q (by rw [h5]; simp) σ s
theorem on_extq {i : Nat} {a : Addr} {ds es : List PyData} (r0 : R c w0 w) (ha : w0.H a = none) (hi : Γ[i]? = some (.ml a ds)) (hn : Nm a (Γ.set i .no)) (h : EvN c te Γ w (fun e => e = es)) (hz : ds.length + es.length ≤ 100000)
    (q : ∀ w1, R c w0 w1 → Ext w.G w1.G → On c E.nx (Γ.set i (.ml a (ds ++ es))) w1) : On c (tDrop (tBM K "list" rExtend (tVar i) (tCons te tNil)) E) Γ w := on_ext r0 ha hi hn h (fun es e => by rw [e]; exact hz) fun es w1 r x e => by rw [e]; exact q w1 r x
end
theorem foldl_app {α β : Type} (f : α → List β) : ∀ (xs : List α) (l : List β), xs.foldl (fun l x => l ++ f x) l = l ++ xs.flatMap f
  | [], l => by simp
  | x :: xs, l => by rw [List.foldl_cons, foldl_app f xs, List.flatMap_cons, List.append_assoc]
/-! rows of counts -/
def rowD (row : List Nat) : PyData := .list (row.map iD)
def cD (rows : List (List Nat)) : PyData := .list (rows.map rowD)
theorem getRow {rows : List (List Nat)} {c : Nat} (h : c < rows.length) : (rows.map rowD)[c]? = some (rowD (rows.getD c [])) := getMap (by rw [List.getD_eq_getElem?_getD, List.getElem?_eq_getElem h]; rfl)
theorem getCell {row : List Nat} {p : Nat} (h : p < row.length) : (row.map iD)[p]? = some (iD (row.getD p 0)) := getMap (by rw [List.getD_eq_getElem?_getD, List.getElem?_eq_getElem h]; rfl)
theorem freshR_len (rows : List (List Nat)) (k : Nat) : ∀ (rs : List Rl) (fr : List Nat), (rs.foldl (KM.freshR rows k) fr).length = fr.length
  | [], _ => rfl
  | r :: rs, fr => by
    rw [List.foldl_cons, freshR_len rows k rs]
    unfold KM.freshR
    exact KM.freshF_len _ _ _ _ _
theorem counts_row (rs : List Rl) (L : Nat) : ∀ (k c : Nat), c ≤ k → ((KM.countsN rs L k).getD c []).length = L
  | 0, c, h => by
    obtain rfl : c = 0 := by omega
    simp [KM.countsN]
  | k + 1, c, h => by
    rw [show KM.countsN rs L (k + 1) = KM.countsN rs L k ++ [KM.freshOf rs (KM.countsN rs L k) L (k + 1)] from rfl, List.getD_eq_getElem?_getD]
    by_cases hc : c ≤ k
    · rw [List.getElem?_append_left (by rw [KM.countsN_len]; omega), ← List.getD_eq_getElem?_getD]
      exact counts_row rs L k c hc
    · obtain rfl : c = k + 1 := by omega
      rw [List.getElem?_append_right (by rw [KM.countsN_len]; omega), KM.countsN_len, Nat.sub_self]
      show (KM.freshOf rs (KM.countsN rs L k) L (k + 1)).length = L
      unfold KM.freshOf
      rw [freshR_len]
      simp
theorem parted_few : ∀ n : Nat, n ≤ 8 → ∀ m : Nat, m ≤ 2 → (KM.parted n m).length ≤ 8 := by
  have h : ∀ n : Fin 9, ∀ m : Fin 3, (KM.parted n.val m.val).length ≤ 8 := by decide +kernel
  intro n hn m hm
  exact h ⟨n, by omega⟩ ⟨m, by omega⟩
def spD' (sp : List Nat) : PyData := .tuple (sp.map iD)
def lD (l : List KM.T) : PyData := .tuple (l.map tD)
def trD (l : List KM.T) : PyData := .list (l.map tD)
end U
end

section
set_option maxRecDepth 100000
set_option maxHeartbeats 4000000
/-! The layer of data, eighth part: results that are not told exactly; the law's pile. -/
namespace U
open PySem PySem.Spec PyProof.Rows L2 HT2
section
variable {K : PySem.W.Frag} {c : Option Addr} {Γ Γ' : List De} {w w0 w' : Wo} {te ta tb tl : TE} {tt tu : TT} {tr : TA} {t u : TS} {E : Ends} {k : L2.St → Hp → Prop} {D1 D2 : PyData → Prop}
/-- an if whose two ways go on together -/
theorem sq_ifJ {Γm : List De} {v : TS} {b : Bool} (h : EvT c tt Γ w (fun e => e = b)) (q1 : ∀ E' : Ends, (∀ w2, R c w w2 → On c E'.nx Γm w2) → ∀ w1, R c w w1 → b = true → On c (t E') Γ w1) (q2 : ∀ E' : Ends, (∀ w2, R c w w2 → On c E'.nx Γm w2) → ∀ w1, R c w w1 → b = false → On c (v E') Γ w1)
    (hk : ∀ w2, R c w w2 → On c (u E) Γm w2) : On c (tSeq (tIfS tt t v) u E) Γ w := on_ife h (fun w1 r e => q1 { E with nx := u E } hk w1 r e) fun w1 r e => q2 { E with nx := u E } hk w1 r e
theorem sq_seqIf {P : Bool → Prop} (h : EvT c tt Γ w P) (h1 : ∀ w1, R c w w1 → P true → On c (t { E with nx := u E }) Γ w1) (h2 : ∀ w1, R c w w1 → P false → On c (u E) Γ w1) : On c (tSeq (tIfS tt t tNext) u E) Γ w := on_if h h1 h2
theorem et_orP {a : Bool} (h1 : EvT c tt Γ w (fun e => e = a)) (h2 : a = false → EvT c tu Γ w (fun _ => True)) : EvT c (tOr tt tu) Γ w (fun b => b = false → a = false) := fun w1 σ r s Q q => h1 w1 σ r s _ fun v w2 r2 e => by
  subst e
  cases v with
  | true => exact q true w2 r2 fun h => by cases h
  | false => exact h2 rfl w2 σ (r.trans r2) (s.mono r2) Q fun b' w3 r3 e => q b' w3 (r2.trans r3) fun _ => rfl
theorem ev_catP {L1 L2 : List PyData → Prop} {D3 : PyData → Prop} (ha : EvD c ta Γ w (fun d => ∃ ds, d = .tuple ds ∧ L1 ds)) (hb : EvD c tb Γ w (fun d => ∃ ds, d = .tuple ds ∧ L2 ds)) (hz : ∀ ds es, L1 ds → L2 es → ds.length + es.length ≤ 100000 ∧ D3 (.tuple (ds ++ es))) : EvD c (tOp (rCatA K) ta tb) Γ w D3 :=
  ev_op ha hb fun d e ⟨ds, h1, h2⟩ ⟨es, h3, h4⟩ => by
    subst h1 h3
    have := hz ds es h2 h4
    exact fun w1 x y hx hy Q q => rd_catT this.1 w1 x y hx hy Q fun v w2 r2 ⟨z, e1, e2⟩ => q v w2 r2 ⟨z, by rw [e1]; exact this.2, e2⟩
/-- an operator on one of some ints and an int -/
theorem rd_imp {r : R2} {d e : PyData} {P P' : PyData → Prop} (h : RD c r d e P) (k : ∀ d, P d → P' d) : RD c r d e P' := fun w1 x y hx hy Q q => h w1 x y hx hy Q fun v w2 r2 ⟨z, e1, e2⟩ => q v w2 r2 ⟨z, k z e1, e2⟩
/-- a comprehension over range(n), n one of some -/
theorem ev_lcRng {g : TG} {vs js : List Nat} {N : Nat → Prop} {B : Nat} (ha : EvA c tr Γ w (DL fun ds => ∃ n : Nat, ds = [.int (n : Int)] ∧ N n)) (hB : ∀ n, N n → n ≤ B) (hz : B ≤ 100000) (hj : ∀ j ∈ js, j ∈ vs) (Γx : Nat → List De) (P : PyData → Prop)
    (tg : ∀ x : Nat, Tg g js (.int (x : Int)) (wipeG Γ vs) (Γx x)) (he : ∀ x : Nat, EvD c te (Γx x) w P) : EvN c (tLc (iRng1 tr) g tYes te vs) Γ w (fun ds => ∃ n, N n ∧ F2 (fun _ d => P d) (List.range n) ds) := fun w1 σ r s Q q => by
  refine ha w1 σ r s _ fun us w2 r2 ⟨ds, ⟨n, h1, h2⟩, h3⟩ => ?_
  subst h1
  cases h3 with
  | cons h3 h4 =>
    cases h4
    rw [h3.intV]
    have hn := hB n h2
    have hi : EvI c (iRng1 (tCons (tC (.int (n : Int))) tNil)) Γ w ((List.range n).map fun (i : Nat) => .int (i : Int)) := ei_range1 (ea_conse ev_int ea_nil) (by omega)
    have main := ev_lcP (tt := tYes) (te := te) (List.range n) (fun (i : Nat) => .int (i : Int)) hi (by rw [List.length_range]; omega) hj Γx (fun _ => true) (fun _ d => P d) (fun x _ => tg x) (fun x _ => et_yes) fun x _ _ => he x
    exact main w2 σ (r.trans r2) (s.mono r2) Q fun p ds w3 r3 hp hP m => q p ds w3 (r2.trans r3) (r2.free hp) ⟨n, h2, by rw [List.filter_eq_self.mpr fun _ _ => rfl] at hP; exact hP⟩ m
/-- a loop over range(n), n one of some -/
theorem sq_forRng {g : TG} {N : Nat → Prop} (ha : EvA c tr Γ w (DL fun ds => ∃ n : Nat, ds = [.int (n : Int)] ∧ N n)) (q : ∀ n w1, R c w w1 → N n → On c (tSeq (tFor (iRng1 (tCons (tC (.int (n : Int))) tNil)) g t) u E) Γ w1) : On c (tSeq (tFor (iRng1 tr) g t) u E) Γ w := fun σ s =>
  ha w σ (R.refl _ _) s _ fun us w2 r2 ⟨ds, ⟨n, h1, h2⟩, h3⟩ => by
    subst h1
    cases h3 with
    | cons h3 h4 =>
      cases h4
      rw [h3.intV]
      exact q n w2 r2 h2 σ (s.mono r2)
/-- pile[0] -/
theorem ev_pile {a : Addr} {i : Nat} (hp : PileOk a w) (hi : Γ[i]? = some (.raw (.ref a))) : EvD (some a) (tOp (rIxL K) (tVar i) (tC (.int 0))) Γ w (fun d => ∃ n : Int, 0 ≤ n ∧ d = .int n) := fun w1 σ r s Q q => by
  obtain ⟨x, h1, h2⟩ := s.get hi
  have h2 : x = some (.ref a) := h2
  subst h2
  obtain ⟨_, n, h3, h4⟩ := r.p a rfl hp
  exact ⟨.ref a, h1, a, [.int n], 0, .int n, rfl, rfl, SqL.of h4, atI_nat (j := 0) rfl, q _ w1 (R.refl _ _) ⟨_, ⟨n, h3, rfl⟩, .int n⟩⟩
theorem R.pile {a : Addr} {n : Int} (hn : 0 ≤ n) (h : w.G a = none) : R (some a) w (w.put a (.lst [.int n]) h) where
  g := Ext.refl _
  h b o hc e := by
    show upd w.H a _ b = some o
    rw [upd_ne (fun z => hc (by rw [z]))]
    exact e
  n b e := put_n h e
  f b e _ := e
  p b hc q := by
    obtain rfl : a = b := Option.some.inj hc
    exact ⟨q.1, n, hn, upd_same⟩
theorem Sl.pile {a : Addr} {o : HO} (hG : w.G a = none) : ∀ {σ : L2.St} {Γ : List De}, Sl (some a) w σ Γ → Sl (some a) (w.put a o hG) σ Γ := by
  intro σ Γ s
  induction s with
  | nil h => exact .nil fun b e => put_n hG (h b e)
  | @cons x σ e Γ h1 h2 ih =>
    refine .cons ?_ ih
    cases e with
    | dat d => exact h1
    | ml b ds => exact De.put (e := .ml b ds) hG (fun z => h1.2.1 (by rw [z])) h1
    | md b ds => exact De.put (e := .md b ds) hG (fun z => h1.2.1 (by rw [z])) h1
    | raw v => exact h1
    | no => trivial
/-- pile[0] = e -/
theorem sq_pile {a : Addr} {i : Nat} (r0 : R (some a) w0 w) (hp : PileOk a w) (hi : Γ[i]? = some (.raw (.ref a))) (h : EvD (some a) te Γ w (fun d => ∃ n : Int, 0 ≤ n ∧ d = .int n)) (q : ∀ w1, R (some a) w0 w1 → On (some a) (u E) Γ w1) : On (some a) (tSeq (tAsg te (gSub (tVar i) (tC (.int 0)) rSetL)) u E) Γ w := fun σ s =>
  h w σ (R.refl _ _) s _ fun v w1 r1 ⟨e, ⟨n, hn, he⟩, dv⟩ => by
    subst he
    obtain ⟨x, h1, h2⟩ := s.get hi
    have h2 : x = some (.ref a) := h2
    subst h2
    refine ⟨.ref a, h1, ?_⟩
    obtain ⟨hG, m, _, hH⟩ := r1.p a rfl hp
    refine ⟨a, [.int m], 0, 0, rfl, rfl, hH, rfl, ?_⟩
    rw [dv.intV]
    exact q (w1.put a (.lst [.int n]) hG) ((r0.trans r1).trans (R.pile hn hG)) σ (Sl.pile hG (s.mono r1))
end
/-- the promise of a def that reads data by pre and hands back one of rel -/
def spS (pre : List PyData → Prop) (rel : List PyData → PyData → Prop) : Sp := fun vs H Q _ => ∃ (w : Wo) (ds : List PyData), w.H = H ∧ DaL w.G vs ds ∧ pre ds ∧ ∀ v w2, R none w w2 → D (rel ds) v w2 → Q v w2.H
theorem ev_callS {c : Option Addr} {Γ : List De} {w : Wo} {tr : TA} {pre : List PyData → Prop} {rel : List PyData → PyData → Prop} {X : XK} {ds : List PyData} (ha : EvAE c tr Γ w ds) (h : pre ds) : EvD c (tCall (spS pre rel) [] X tr) Γ w (rel ds) := fun w1 σ r s Q q => ha w1 σ r s _ fun vs w2 r2 ⟨e, he, hd⟩ => by
  subst he
  show spS pre rel (vs ++ []) w2.H Q X
  rw [List.append_nil]
  exact ⟨w2, e, rfl, hd, h, fun v w3 r3 p => q v w3 (r2.trans r3.weak) p⟩
section
variable {P : Program} {wd : World} {K : PySem.W.Frag} {mg : Str → Option Value} {base : Heap}
theorem cal_S {x : Str} {st : Stmt} {N ps : List Str} {k : Nat} {pre : List PyData → Prop} {rel : List PyData → PyData → Prop} (d : DefT K mg x st ps) (S : FnScope N ps (defScope st)) (len : ∀ ds, pre ds → ds.length = ps.length)
    (body : ∀ (f : Addr) (cdv : Value) (A : Around) (outer : List Env) (s : Shared) (H : Hp) (E : XK), Room k (A.deeper (envOfC x (defScope st) s.heap.objs.size f cdv)) →
      ∃ t, PSs (cxOf L2.CX0 P wd K mg base N x (defScope st) f cdv A outer s H E).nox (defBody st) t ∧
        ∀ (w : Wo) (Q : VK) ds, pre ds → Rt none w (rel ds) Q → On none (t { nx := fun _ H' => Q .non H', rt := Q }) (ds.map De.dat ++ List.replicate (N.length - ds.length) De.no) w) : C8.Cal P wd K mg base (k + 1) x (spS pre rel) [] :=
  cal_of d S (fun vs H Q E ⟨w, ds, h1, h2, h3, _⟩ => by rw [h2.len]; exact len ds h3) fun f cdv A outer s H vs Q E hr h => by
    obtain ⟨t, ht, on⟩ := body f cdv A outer s H E hr
    refine ⟨t, ht, ?_⟩
    obtain ⟨w, ds, rfl, hd, hp, q⟩ := h
    unfold L2.start
    rw [hd.len]
    exact on w Q ds hp (fun v w2 r2 p => q v w2 r2 p) _ (sl_start _ hd)
end
end U
end

section
set_option maxRecDepth 100000
set_option maxHeartbeats 4000000
/-! The layer of data, ninth part: loops whose state is not told exactly. -/
namespace U
open PySem PySem.Spec PyProof.Rows L2 HT2
def NxE (c : Option Addr) (w0 : Wo) (G0 : Hp) (P : List De → Prop) : L2.St → Hp → Prop := fun σ H => ∃ w' Γ, P Γ ∧ H = w'.H ∧ R c w0 w' ∧ Ext G0 w'.G ∧ Sl c w' σ Γ
section
variable {K : PySem.W.Frag} {c : Option Addr} {Γ Γ' : List De} {w w0 w' : Wo} {te ta tb tl : TE} {tt tu : TT} {tr : TA} {t u : TS} {E : Ends} {k : L2.St → Hp → Prop} {D1 D2 : PyData → Prop}
theorem on_nxE {P : List De → Prop} (r : R c w0 w) {G0 : Hp} (e : Ext G0 w.G) (h : P Γ') (l : Le Γ' Γ) : On c (NxE c w0 G0 P) Γ w := fun σ s => ⟨w, Γ', h, rfl, r, e, s.weak l⟩
/-- from the pile b, new since w0, back to none -/
theorem on_nxEb {P : List De → Prop} {b : Addr} (hb : w0.H b = none) (r : R (some b) w0 w) {G0 : Hp} (e : Ext G0 w.G) (h : P Γ') (l : Le Γ' Γ) : On (some b) (NxE none w0 G0 P) Γ w := fun σ s =>
  ⟨w, Γ', h, rfl, R.own (R.refl none w0) hb r, e, Sl.back (fun a h => by cases h) (s.weak l)⟩
theorem on_back {b : Addr} (q : On none k Γ w) : On (some b) k Γ w := fun σ s => q σ (Sl.back (fun a h => by cases h) s)
theorem sq_forE {α : Type} {wi : TI} {g : TG} {js : List Nat} (xs : List α) (enc : α → PyData) (hi : EvI c wi Γ w (xs.map enc)) (r0 : R c w0 w) (Iv : Nat → List De → Prop) (h0 : ∃ Γ0, Iv 0 Γ0 ∧ Le Γ0 Γ)
    (hs : ∀ i x w' G0 Γi, xs[i]? = some x → Iv i Γi → R c w0 w' → Ext w.G G0 → Ext G0 w'.G → ∃ Γ1, Tg g js (enc x) Γi Γ1 ∧ On c (t { E with nx := NxE c w0 G0 (Iv (i + 1)), ct := NxE c w0 G0 (Iv (i + 1)), bk := u E }) Γ1 w')
    (hd : ∀ w' Γn, Iv xs.length Γn → R c w0 w' → Ext w.G w'.G → On c (u E) Γn w') : On c (tSeq (tFor wi g t) u E) Γ w := fun σ s1 => by
  refine hi w σ (R.refl _ _) s1 _ fun J w2 r2 ⟨hgo, hstop⟩ => ?_
  obtain ⟨Γ0, i0, l0⟩ := h0
  refine ⟨fun i m σ' H => m = xs.length - i ∧ i ≤ xs.length ∧ ∃ w' Γi, Iv i Γi ∧ H = w'.H ∧ R c w0 w' ∧ Ext w2.G w'.G ∧ Sl c w' σ' Γi, ⟨xs.length, by simp, Nat.zero_le _, w2, Γ0, i0, rfl, r0.trans r2, Ext.refl _, (s1.mono r2).weak l0⟩, ?_⟩
  rintro i m σ' H ⟨rfl, hle, w', Γi, iv, rfl, r', e', sl⟩
  by_cases hlt : i < xs.length
  · have hx : xs[i]? = some xs[i] := List.getElem?_eq_getElem hlt
    obtain ⟨go, yld⟩ := hgo i (enc xs[i]) w' e' (by rw [List.getElem?_map, hx]; rfl)
    refine .inr ⟨go, NxE c w0 w2.G (Iv (i + 1)), fun σ2 H2 ⟨w3, Γ3, i3, e3, r3, x3, s3⟩ => ⟨xs.length - (i + 1), by omega, rfl, by omega, w3, Γ3, i3, e3, r3, x3, s3⟩, fun x H' hy => ?_⟩
    obtain ⟨w4, rfl, r4, dx⟩ := yld x H' hy
    have r4c : R c w' w4 := r4.weak
    obtain ⟨Γ1, tg, body⟩ := hs i xs[i] w4 w2.G Γi hx iv (r'.trans r4c) r2.g (e'.trans r4.g)
    exact tg c w4 x σ' _ dx (sl.mono r4c) fun σ5 s5 _ => body σ5 s5
  · have e : i = xs.length := by omega
    subst e
    refine .inl ⟨?_, hd w' Γi iv r' (r2.g.trans e') σ' sl⟩
    have := hstop w' e'
    rwa [List.length_map] at this
end
theorem f2_dig {m : Nat} {xs : List Nat} {ds : List PyData} (h : F2 (fun _ d => ∃ r : Nat, r < m ∧ d = .int (r : Int)) xs ds) : ∃ ns : List Nat, ds = ns.map iD ∧ ns.length = xs.length ∧ ∀ n ∈ ns, n < m := by
  induction h with
  | nil => exact ⟨[], rfl, rfl, by simp⟩
  | cons a _ ih =>
    obtain ⟨r, h1, h2⟩ := a
    obtain ⟨ns, e, l, q⟩ := ih
    refine ⟨r :: ns, by rw [e, h2]; rfl, by simp [l], fun n hn => ?_⟩
    rcases List.mem_cons.mp hn with e | hn
    · rw [e]; exact h1
    · exact q n hn
theorem f2_sg {xs : List Nat} {ds : List PyData} (h : F2 (fun _ d => ∃ p : Nat × Nat, p.1 ≤ 2 ∧ p.2 ≤ 2 ∧ d = pD p) xs ds) : ∃ sg : List (Nat × Nat), ds = sg.map pD ∧ sg.length = xs.length ∧ ∀ p ∈ sg, p.1 ≤ 2 ∧ p.2 ≤ 2 := by
  induction h with
  | nil => exact ⟨[], rfl, rfl, by simp⟩
  | cons a _ ih =>
    obtain ⟨p, h1, h2, h3⟩ := a
    obtain ⟨sg, e, l, q⟩ := ih
    refine ⟨p :: sg, by rw [e, h3]; rfl, by simp [l], fun n hn => ?_⟩
    rcases List.mem_cons.mp hn with e | hn
    · rw [e]; exact ⟨h1, h2⟩
    · exact q n hn
end U
end

section
set_option maxRecDepth 100000
set_option maxHeartbeats 4000000
/-! The layer of data, tenth part: the law's script, a list that is no datum of ours. -/
namespace U
open PySem PySem.Spec PyProof.Rows L2 HT2
def Scr (K : PySem.W.Frag) (w : Wo) (a : Addr) (ns : List Int) : Prop := SqL K w.H a (ns.map V.int)
theorem Scr.mono {K : PySem.W.Frag} {w w' : Wo} {a : Addr} {ns : List Int} (h : Scr K w a ns) (r : R none w w') : Scr K w' a ns := by
  rcases h with h | h
  · rcases h with h | ⟨o, h⟩
    · exact .inl (.inl (r.h a _ (by simp) h))
    · exact .inl (.inr ⟨o, r.h a _ (by simp) h⟩)
  · exact .inr h
section
variable {K : PySem.W.Frag} {Γ Γ' : List De} {w w0 w' : Wo} {te ta tb tl : TE} {tt tu : TT} {tr : TA} {t u : TS} {E : Ends} {k : L2.St → Hp → Prop} {a : Addr} {ns : List Int} {i : Nat}
theorem ev_scrLen (hS : Scr K w a ns) (hi : Γ[i]? = some (.raw (.ref a))) : EvE none (tCB (rLen K) (tCons (tVar i) tNil)) Γ w (.int (ns.length : Int)) := fun w1 σ r s Q q => by
  obtain ⟨x, h1, h2⟩ := s.get hi
  have h2 : x = some (.ref a) := h2
  subst h2
  refine ⟨.ref a, h1, a, ns.map V.int, rfl, .inl (hS.mono r), ?_⟩
  rw [List.length_map]
  exact q _ w1 (R.refl _ _) ⟨_, rfl, .int _⟩
theorem ev_scrIx {j : Nat} {n : Int} (hS : Scr K w a ns) (hi : Γ[i]? = some (.raw (.ref a))) (hx : EvE none tb Γ w (.int (j : Int))) (hj : ns[j]? = some n) : EvE none (tOp (rIxL K) (tVar i) tb) Γ w (.int n) := fun w1 σ r s Q q => by
  obtain ⟨x, h1, h2⟩ := s.get hi
  have h2 : x = some (.ref a) := h2
  subst h2
  refine ⟨.ref a, h1, ?_⟩
  refine hx w1 σ r s _ fun y w2 r2 ⟨e, he, dy⟩ => ?_
  subst he
  exact ⟨a, ns.map V.int, (j : Int), .int n, rfl, dy.intV, hS.mono (r.trans r2), atI_nat (by rw [List.getElem?_map, hj]; rfl), q _ w2 r2 ⟨_, rfl, .int _⟩⟩
end
/-- the promise of a def whose first argument is the script -/
def spR (K : PySem.W.Frag) (pre : List Int → List PyData → Prop) (rel : List Int → List PyData → PyData → Prop) : Sp := fun vs H Q _ => ∃ (w : Wo) (a : Addr) (ns : List Int) (us : List V) (ds : List PyData), vs = .ref a :: us ∧ w.H = H ∧ Scr K w a ns ∧ DaL w.G us ds ∧ pre ns ds ∧ ∀ v w2, R none w w2 → D (rel ns ds) v w2 → Q v w2.H
theorem ev_callR {K : PySem.W.Frag} {Γ : List De} {w : Wo} {tr : TA} {pre : List Int → List PyData → Prop} {rel : List Int → List PyData → PyData → Prop} {X : XK} {i : Nat} {a : Addr} {ns : List Int} {ds : List PyData} (hS : Scr K w a ns) (hi : Γ[i]? = some (.raw (.ref a))) (ha : EvAE none tr Γ w ds) (h : pre ns ds) :
    EvD none (tCall (spR K pre rel) [] X (tCons (tVar i) tr)) Γ w (rel ns ds) := fun w1 σ r s Q q => by
  obtain ⟨x, h1, h2⟩ := s.get hi
  have h2 : x = some (.ref a) := h2
  subst h2
  refine ⟨.ref a, h1, ?_⟩
  refine ha w1 σ r s _ fun vs w2 r2 ⟨e, he, hd⟩ => ?_
  subst he
  show spR K pre rel ((.ref a :: vs) ++ []) w2.H Q X
  rw [List.append_nil]
  exact ⟨w2, a, ns, vs, e, rfl, rfl, hS.mono (r.trans r2), hd, h, fun v w3 r3 p => q v w3 (r2.trans r3) p⟩
section
variable {P : Program} {wd : World} {K : PySem.W.Frag} {mg : Str → Option Value} {base : Heap}
theorem ok_R {x : Str} {st : Stmt} {N ps : List Str} {k : Nat} {pre : List Int → List PyData → Prop} {rel : List Int → List PyData → PyData → Prop} {f : Addr} {fd : FuncData} (F : L2.Fun K x x st f fd) (S : FnScope N ps (defScope st)) (len : ∀ ns ds, pre ns ds → ds.length + 1 = ps.length)
    (body : ∀ (f : Addr) (cdv : Value) (A : Around) (outer : List Env) (s : Shared) (H : Hp) (E : XK), Room k (A.deeper (envOfC x (defScope st) s.heap.objs.size f cdv)) →
      ∃ t, PSs (cxOf L2.CX0 P wd K mg base N x (defScope st) f cdv A outer s H E).nox (defBody st) t ∧
        ∀ (w : Wo) (a : Addr) (ns : List Int) (Q : VK) ds, pre ns ds → Scr K w a ns → Rt none w (rel ns ds) Q → On none (t { nx := fun _ H' => Q .non H', rt := Q }) (.raw (.ref a) :: (ds.map De.dat ++ List.replicate (N.length - (ds.length + 1)) De.no)) w) : FnOk P wd K mg base L2.CX0 (k + 1) f fd ps (spR K pre rel) :=
  F.ok S (fun vs H Q E ⟨w, a, ns, us, ds, h0, h1, _, h2, h3, _⟩ => by rw [h0, List.length_cons, h2.len]; exact len ns ds h3) fun cdv A outer s H vs Q E hr h => by
    obtain ⟨t, ht, on⟩ := body f cdv A outer s H E hr
    refine ⟨t, ht, ?_⟩
    obtain ⟨w, a, ns, us, ds, rfl, rfl, hS, hd, hp, q⟩ := h
    unfold L2.start
    rw [List.length_cons, hd.len]
    exact on w a ns Q ds hp hS (fun v w2 r2 p => q v w2 r2 p) _ (.cons rfl (sl_start _ hd))
theorem cal_R {x : Str} {st : Stmt} {N ps : List Str} {k : Nat} {pre : List Int → List PyData → Prop} {rel : List Int → List PyData → PyData → Prop} (d : DefT K mg x st ps) (S : FnScope N ps (defScope st)) (len : ∀ ns ds, pre ns ds → ds.length + 1 = ps.length)
    (body : ∀ (f : Addr) (cdv : Value) (A : Around) (outer : List Env) (s : Shared) (H : Hp) (E : XK), Room k (A.deeper (envOfC x (defScope st) s.heap.objs.size f cdv)) →
      ∃ t, PSs (cxOf L2.CX0 P wd K mg base N x (defScope st) f cdv A outer s H E).nox (defBody st) t ∧
        ∀ (w : Wo) (a : Addr) (ns : List Int) (Q : VK) ds, pre ns ds → Scr K w a ns → Rt none w (rel ns ds) Q → On none (t { nx := fun _ H' => Q .non H', rt := Q }) (.raw (.ref a) :: (ds.map De.dat ++ List.replicate (N.length - (ds.length + 1)) De.no)) w) : C8.Cal P wd K mg base (k + 1) x (spR K pre rel) [] := by
  obtain ⟨f, fd, F, m, b⟩ := d.ex
  exact ⟨⟨f, fd, ps, [], ok_R F S len body, m, F.kp, b, .nil⟩⟩
end
end U
end

section
set_option maxRecDepth 100000
set_option maxHeartbeats 4000000
/-! Plain facts for the law's end. -/
namespace U
open PySem PySem.Spec PyProof.Rows L2 HT2
open KM (cell countsN treesF T RunsL RunsC init keepR madeF aliveR ixs tau at')
def listT (rs : List Rl) (L s most : Nat) : Option (List KM.T) := if 300 < ((countsN rs L most).map fun row => row.getD s 0).sum then none else some ((List.range most).flatMap fun i => treesF rs (countsN rs L most) 10 s (i + 1))
def tE : Option (Nat × KM.T) → PyData
  | none => .none
  | some p => tD p.2
theorem eqv_self {d : PyData} (h : SeqAt.shaped d = true) : PyData.eqv d d = true := PySem.SeqAt.eqv_refl d (SeqAt.canLay_of_shaped h)
/-! what stands in the lists of trees -/
theorem col_eq {rs rs' : List Rl} {L most : Nat} (h : ∀ c, cell (countsN rs' L most) c 0 = cell (countsN rs L most) c 0) : ((countsN rs' L most).map fun row => row.getD 0 0) = (countsN rs L most).map fun row => row.getD 0 0 := by
  apply List.ext_getElem
  · rw [List.length_map, List.length_map, KM.countsN_len, KM.countsN_len]
  · intro i h1 h2
    rw [List.length_map] at h1 h2
    have := h i
    unfold cell at this
    have e1 : (countsN rs' L most).getD i [] = (countsN rs' L most)[i] := by rw [List.getD_eq_getElem?_getD, List.getElem?_eq_getElem h1]; rfl
    have e2 : (countsN rs L most).getD i [] = (countsN rs L most)[i] := by rw [List.getD_eq_getElem?_getD, List.getElem?_eq_getElem h2]; rfl
    rw [e1, e2] at this
    rw [List.getElem_map, List.getElem_map]
    exact this
theorem listT_cut {rs : List Rl} {L most : Nat} {F F' : KM.Fd} {come come' : List Nat} (C : KM.Cut rs L F F' come come') :
    listT rs L 0 most = (listT (rs.filter (keepR (madeF F) come)) L 0 most).map (List.map (T.turn fun j => (ixs (keepR (madeF F) come) 0 rs).getD j 0)) := by
  unfold listT
  rw [col_eq (rs := rs) (rs' := rs.filter (keepR (madeF F) come)) (C.cells most)]
  split
  · rfl
  · rw [Option.map_some, List.map_flatMap]
    congr 2
    funext i
    exact C.trees most 10 (i + 1)
theorem listT_mem {rs : List Rl} {L most : Nat} {ts : List T} (b : KM.BkOk rs L) (hm : most ≤ 9) (h : listT rs L 0 most = some ts) : ts.length ≤ 2700 ∧ ∀ t ∈ ts, t.hgt ≤ 10 ∧ T.Below rs.length t := by
  unfold listT at h
  split at h
  · cases h
  · rename_i hs
    have e := Option.some.inj h
    subst e
    refine ⟨?_, fun t ht => ?_⟩
    · have := KM.flatMap_len (fun i => treesF rs (countsN rs L most) 10 0 (i + 1)) 300 (List.range most) fun i hi => by
        have hi := List.mem_range.mp hi
        rw [KM.treesF_len (most := most) b.sg 10 0 (i + 1) (by omega) (by omega) (by omega)]
        refine Nat.le_trans (KM.le_sum (l := (countsN rs L most).map fun row => row.getD 0 0) (List.mem_map.mpr ⟨(countsN rs L most).getD (i + 1) [], ?_, rfl⟩)) (by omega)
        rw [List.getD_eq_getElem?_getD, List.getElem?_eq_getElem (by rw [KM.countsN_len]; omega)]
        exact List.getElem_mem _
      rw [List.length_range] at this
      omega
    · obtain ⟨i, _, ht⟩ := List.mem_flatMap.mp ht
      exact ⟨KM.treesF_hgt _ _ _ _ _ t ht, KM.treesF_below _ _ _ _ _ t ht⟩
theorem knots_hgt (t : T) : t.knots + 1 ≤ 2 ^ t.hgt := by
  induction t with
  | n0 r => simp [T.knots, T.hgt]
  | n1 r a ih =>
    simp only [T.knots, T.hgt]
    rw [Nat.pow_add]
    omega
  | n2 r a b ih1 ih2 =>
    simp only [T.knots, T.hgt]
    have h1 : 2 ^ a.hgt ≤ 2 ^ max a.hgt b.hgt := Nat.pow_le_pow_right (by omega) (by omega)
    have h2 : 2 ^ b.hgt ≤ 2 ^ max a.hgt b.hgt := Nat.pow_le_pow_right (by omega) (by omega)
    rw [Nat.pow_add]
    omega
theorem knots_small {t : T} (h : t.hgt ≤ 10) : t.knots ≤ 50000 := by
  have a := knots_hgt t
  have b : 2 ^ t.hgt ≤ 2 ^ 10 := Nat.pow_le_pow_right (by omega) h
  omega
theorem turn_hgt (f : Nat → Nat) (t : T) : (t.turn f).hgt = t.hgt := by induction t <;> simp_all [T.turn, T.hgt]
theorem turn_in {ks : List Nat} {t : T} (h : T.Below ks.length t) : ∀ r ∈ (t.turn fun j => ks.getD j 0).flat, r ∈ ks := by
  intro r hr
  rw [T.turn_flat] at hr
  obtain ⟨x, hx, rfl⟩ := List.mem_map.mp hr
  have := h x hx
  show ks.getD x 0 ∈ ks
  rw [List.getD_eq_getElem?_getD, List.getElem?_eq_getElem this]
  exact List.getElem_mem _
/-! shapes -/
theorem lay_I : ∀ l : List Nat, PyData.canLayAll0 (l.map iD) = true ∧ PyData.depthAll (l.map iD) = 0
  | [] => by simp [PyData.canLayAll0, PyData.depthAll]
  | x :: l => by
    have := lay_I l
    simp [PyData.canLayAll0, PyData.depthAll, iD, PyData.canLay0, PyData.depth, this]
theorem sh_Is (l : List Nat) : SeqAt.shaped (.list (l.map iD)) = true := shaped_of (by simp only [PyData.canLay0]; exact (lay_I l).1) (by simp only [PyData.depth]; have := (lay_I l).2; omega)
theorem lay_Ts : ∀ {l : List T}, (∀ t ∈ l, t.hgt ≤ 20) → PyData.canLayAll0 (l.map tD) = true ∧ PyData.depthAll (l.map tD) ≤ 40
  | [], _ => by simp [PyData.canLayAll0, PyData.depthAll]
  | t :: l, h => by
    have a := lay_Ts fun u hu => h u (List.mem_cons_of_mem _ hu)
    have b := h t List.mem_cons_self
    have c := depth_T t
    simp only [List.map_cons, PyData.canLayAll0, PyData.depthAll, lay_T, a.1, Bool.and_true, true_and]
    omega
theorem sh_Ts {l : List T} (h : ∀ t ∈ l, t.hgt ≤ 20) : SeqAt.shaped (.list (l.map tD)) = true := by
  have := lay_Ts h
  exact shaped_of (by simp only [PyData.canLay0]; exact this.1) (by simp only [PyData.depth]; omega)
theorem sh_tE {o : Option (Nat × T)} (h : ∀ p, o = some p → p.2.hgt ≤ 20) : SeqAt.shaped (tE o) = true := by
  cases o with
  | none => exact shaped_of (by simp [tE, PyData.canLay0]) (by simp [tE, PyData.depth])
  | some p => exact shaped_T (by have := h p rfl; omega)
theorem lay_Fs : ∀ {l : List PyData}, (∀ d ∈ l, ∃ s ns, Fm 3 d s ns) → PyData.canLayAll0 l = true ∧ PyData.depthAll l ≤ 3
  | [], _ => by simp [PyData.canLayAll0, PyData.depthAll]
  | d :: l, h => by
    have a := lay_Fs fun u hu => h u (List.mem_cons_of_mem _ hu)
    obtain ⟨s, ns, q⟩ := h d List.mem_cons_self
    have b := fm_lay q
    simp only [PyData.canLayAll0, PyData.depthAll, a.1, b.1, Bool.and_true, true_and]
    omega
theorem lay_Ps : ∀ l : List (Nat × Nat), PyData.canLayAll0 (l.map pD) = true ∧ PyData.depthAll (l.map pD) ≤ 1
  | [] => by simp [PyData.canLayAll0, PyData.depthAll]
  | p :: l => by
    have := lay_Ps l
    simp [PyData.canLayAll0, PyData.depthAll, pD, PyData.canLay0, PyData.depth, this]
theorem lay_R {sg : List (Nat × Nat)} {r : Rl} (h : RlOk sg r) : (rD r).canLay0 = true ∧ (rD r).depth ≤ 6 := by
  have a := lay_I r.parts
  have b := lay_Fs (l := r.fs) fun d hd => by obtain ⟨s, ns, q, _⟩ := h.fm d hd; exact ⟨s, ns, q⟩
  unfold rD
  simp only [PyData.canLay0, PyData.canLayAll0, PyData.depth, PyData.depthAll, a.1, b.1, a.2, Bool.and_true, true_and]
  omega
theorem lay_Rs {sg : List (Nat × Nat)} : ∀ {rs : List Rl}, (∀ r ∈ rs, RlOk sg r) → PyData.canLayAll0 (rs.map rD) = true ∧ PyData.depthAll (rs.map rD) ≤ 6
  | [], _ => by simp [PyData.canLayAll0, PyData.depthAll]
  | r :: rs, h => by
    have a := lay_Rs fun u hu => h u (List.mem_cons_of_mem _ hu)
    have b := lay_R (h r List.mem_cons_self)
    simp only [List.map_cons, PyData.canLayAll0, PyData.depthAll, a.1, b.1, Bool.and_true, true_and]
    omega
theorem sh_B {sg : List (Nat × Nat)} {rs : List Rl} (h : BOk sg rs) : SeqAt.shaped (bD sg rs) = true := by
  have a := lay_Ps sg
  have b := lay_Rs h.r
  unfold bD
  refine shaped_of ?_ ?_
  · simp only [PyData.canLay0, PyData.canLayAll0, a.1, b.1, Bool.and_true]
  · simp only [PyData.depth, PyData.depthAll]
    omega
theorem any_I (r : Nat) : ∀ ks : List Nat, ((ks.map iD).any fun z => PyData.eqv z (iD r)) = decide (r ∈ ks)
  | [] => rfl
  | k :: ks => by
    have e : PyData.eqv (iD k) (iD r) = decide ((k : Int) = (r : Int)) := int_eqv _ _
    rw [List.map_cons, List.any_cons, any_I r ks, e]
    by_cases h : k = r
    · subst h; simp
    · have : ¬ ((k : Int) = (r : Int)) := by omega
      have h2 : ¬ r = k := fun z => h z.symm
      simp [this, h2]
theorem BOk.cut {sg : List (Nat × Nat)} {rs : List Rl} (h : BOk sg rs) (p : Rl → Bool) : BOk sg (rs.filter p) := ⟨h.s, Nat.le_trans (List.length_filter_le _ _) h.r8, fun r hr => h.r r (List.mem_filter.mp hr).1⟩
end U
end

section
set_option maxRecDepth 100000
set_option maxHeartbeats 4000000
/-! The defs of formulas. -/
namespace U
open PySem PySem.Spec PyProof.Rows L2
theorem fms_zs {h : Nat} : ∀ {bs : List PyData} {s : Nat} {ns : List (Nat × Nat)}, Fms h bs s ns → ∃ zs : List (PyData × Nat × List (Nat × Nat)), bs = zs.map (·.1) ∧ (∀ z ∈ zs, Fm h z.1 z.2.1 z.2.2) ∧ s = (zs.map (·.2.1)).sum ∧ ns = (zs.map (·.2.2)).flatten
  | _, _, _, .nil => ⟨[], rfl, by simp, rfl, rfl⟩
  | _, _, _, .cons h1 h2 => by
    obtain ⟨zs, rfl, a, rfl, rfl⟩ := fms_zs h2
    exact ⟨⟨_, _, _⟩ :: zs, rfl, fun z hz => by
      rcases List.mem_cons.mp hz with rfl | hz
      · exact h1
      · exact a z hz, rfl, rfl⟩
theorem natsum_int : ∀ l : List Nat, (l.map fun (n : Nat) => (n : Int)).sum = ((l.sum : Nat) : Int)
  | [] => rfl
  | x :: l => by rw [List.map_cons, List.sum_cons, List.sum_cons, natsum_int l, Int.natCast_add]

section
variable {P : Program} {wd : World} {K : PySem.W.Frag} {mg : Str → Option Value} {base : Heap} {dW : Addr}
/-! is_number -/
def rel_is_number : List PyData → PyData → Prop := fun ds d => ∃ i : Int, ds = [.int i] ∧ d = .bool true
theorem c_is_number (T : Txt P wd K mg dW) : C8.Cal P wd K mg base 1 "is_number" (spD rel_is_number) [] :=
  cal_D T.d_is_number sc_is_number (fun ds d ⟨i, h, _⟩ => by rw [h]; rfl) fun f cdv A outer s H E hr => ⟨_, (pss_one (ps_ret (pe_and (pe_callB (r := rIsi K) call_isi (by rfl) T.isinstance (by decide +kernel) (pa_cons (pv 0) (pa_cons (pe_bltn (v := .ty "int") (by rfl) T.int (by decide +kernel) rfl) pa_nil))) (pe_one (pe_not (pe_callB (r := rIsi K) call_isi (by rfl) T.isinstance (by decide +kernel) (pa_cons (pv 0) (pa_cons (pe_bltn (v := .ty "bool") (by rfl) T.bool (by decide +kernel) rfl) pa_nil)))))))), fun w Q ds d ⟨i, h1, h2⟩ rt => by
    subst h1 h2
    refine on_ret (R.refl _ _) (D1 := fun e => e = .bool true) ?_ rt
    exact ev_and (a := true) (b := true) (ev_isi (d := .int i) (ev_var rfl) kit_same) fun _ => ev_not (a := false) (ev_isi (d := .int i) (ev_var rfl) T.int_bool)⟩
/-! numbers_fit -/
def rel_numbers_fit : List PyData → PyData → Prop := fun ds d => ∃ w pre bs own m, Wd w pre m own ∧ bs.length = m ∧ ds = [.tuple (.str w :: (pre ++ bs))] ∧ d = .bool true
theorem w_word (T : Txt P wd K mg dW) {w : Str} {pre : List PyData} {m : Nat} {own : List (Nat × Nat)} (h : Wd w pre m own) : ∃ t, PySem.W.nsIn K dW w = some (some (.int (m : Int) t)) := by
  cases h
  · exact T.w_num
  · exact T.w_worth
  · exact T.w_sum
  · exact T.w_less
  · exact T.w_least
  · exact T.w_greatest
  · exact T.w_pick
  · exact T.w_times
  · exact T.w_rest
theorem w_dct (T : Txt P wd K mg dW) {w : Str} {pre : List PyData} {m : Nat} {own : List (Nat × Nat)} (h : Wd w pre m own) : KDct K wd dW w (.int (m : Int)) := by
  obtain ⟨es, n, D⟩ := T.words
  obtain ⟨t, e⟩ := w_word T h
  exact ⟨es, n, _, D.at_, D.lit, e, ⟨t, rfl⟩⟩
theorem c_numbers_fit (T : Txt P wd K mg dW) : C8.Cal P wd K mg base 2 "numbers_fit" (spD rel_numbers_fit) [] :=
  have c_is_number := c_is_number (P := P) (base := base) T
  cal_D T.d_numbers_fit sc_numbers_fit (fun ds d ⟨_, _, _, _, _, _, _, h, _⟩ => by rw [h]; rfl) fun f cdv A outer s H E hr => ⟨_, (pss_cons (ps_if (pt_cmpR (op_eqD hr.units) (pe_ix (r := rIxT K) ix_tup (pv 0) pe_int (fun _ _ => rfl)) pe_str (nomark _)) (pss_one (ps_ret (pe_and (pe_cmpR (op_eqD hr.units) (pe_callB (r := rLen K) call_len_seq (by rfl) T.len PySem.boot_len (pa_cons (pv 0) pa_nil)) pe_int (nomark _)) (pe_and (C8.pe_c c_is_number hr (by omega) (by rfl) (pa_cons (pe_ix (r := rIxT K) ix_tup (pv 0) pe_int (fun _ _ => rfl)) pa_nil)) (pe_one (pe_cmpR op_lt (pe_callB call_abs (by rfl) T.abs (by decide +kernel) (pa_cons (pe_ix (r := rIxT K) ix_tup (pv 0) pe_int (fun _ _ => rfl)) pa_nil)) (pe_op op_pow pe_int pe_int) (nomark _))))))) pss_nil)
      (pss_cons (ps_if (pt_cmpR (op_eqD hr.units) (pe_ix (r := rIxT K) ix_tup (pv 0) pe_int (fun _ _ => rfl)) pe_str (nomark _)) (pss_one (ps_ret (pe_and (pe_cmpR (op_eqD hr.units) (pe_callB (r := rLen K) call_len_seq (by rfl) T.len PySem.boot_len (pa_cons (pv 0) pa_nil)) pe_int (nomark _)) (pe_one (pe_callB (r := rAll K) (cr_all rfl) (by rfl) T.all (by decide +kernel) (pa_cons (pe_lc (own := [("part", 1)]) rfl sc_numbers_fit.nd (pi_tup (pe_slice sl_tupA (pv 0) (po_some pe_int) po_none)) (blkOk_by (own := [("part", 1)]) (N := N_numbers_fit) (sc := defScope s_numbers_fit) (by decide +kernel)) (fun _ _ _ _ _ => (pg_name (i := 1) sc_numbers_fit.nd rfl (Or.inl rfl))) (fun _ _ _ _ _ => pts_nil) (fun _ _ _ _ _ => (pe_and (C8.pe_c c_is_number hr (by omega) (by rfl) (pa_cons (pv 1) pa_nil)) (pe_one (pe_cmpR op_ge (pv 1) pe_int (nomark _)))))) pa_nil)))))) pss_nil)
      (pss_cons (ps_if (pt_cmpR (op_eqD hr.units) (pe_ix (r := rIxT K) ix_tup (pv 0) pe_int (fun _ _ => rfl)) pe_str (nomark _)) (pss_one (ps_ret (pe_and (pe_cmpR (op_eqD hr.units) (pe_callB (r := rLen K) call_len_seq (by rfl) T.len PySem.boot_len (pa_cons (pv 0) pa_nil)) pe_int (nomark _)) (pe_and (C8.pe_c c_is_number hr (by omega) (by rfl) (pa_cons (pe_ix (r := rIxT K) ix_tup (pv 0) pe_int (fun _ _ => rfl)) pa_nil)) (pe_one (pe_cmpR op_lt (pe_callB call_abs (by rfl) T.abs (by decide +kernel) (pa_cons (pe_ix (r := rIxT K) ix_tup (pv 0) pe_int (fun _ _ => rfl)) pa_nil)) (pe_op op_pow pe_int pe_int) (nomark _))))))) pss_nil)
      (pss_cons (ps_if (pt_cmpR (op_eqD hr.units) (pe_ix (r := rIxT K) ix_tup (pv 0) pe_int (fun _ _ => rfl)) pe_str (nomark _)) (pss_one (ps_ret (pe_and (pe_cmpR (op_eqD hr.units) (pe_callB (r := rLen K) call_len_seq (by rfl) T.len PySem.boot_len (pa_cons (pv 0) pa_nil)) pe_int (nomark _)) (pe_and (C8.pe_c c_is_number hr (by omega) (by rfl) (pa_cons (pe_ix (r := rIxT K) ix_tup (pv 0) pe_int (fun _ _ => rfl)) pa_nil)) (pe_one (pe_chain op_lt op_lt pe_int (pe_ix (r := rIxT K) ix_tup (pv 0) pe_int (fun _ _ => rfl)) (pe_op op_pow pe_int pe_int))))))) pss_nil)
      (pss_one (ps_ret (pe_cmpR (op_eqD hr.units) (pe_callB (r := rLen K) call_len_seq (by rfl) T.len PySem.boot_len (pa_cons (pv 0) pa_nil)) (pe_op op_add pe_int (pe_ix (r := rIxD K wd) ix_kdict (pe_glob (v := .ref dW) (by rfl) T.g_WORDS rfl) (pe_ix (r := rIxT K) ix_tup (pv 0) pe_int (fun _ _ => rfl)) (fun _ _ => rfl))) (nomark _)))))))), fun w Q ds d ⟨x, pre, bs, own, m, hw, hb, h1, h2⟩ rt => by
    subst h1 h2
    have hd := w_dct T hw
    have N : ∀ {Γ : List De} {w1 : Wo} {ds : List PyData} {i : Int}, Γ[0]? = some (.dat (.tuple ds)) → ds[1]? = some (.int i) → EvE none (tCall (spD rel_is_number) [] C8.E0 (tCons (tOp (rIxT K) (tVar 0) (tC (.int 1))) tNil)) Γ w1 (.bool true) :=
      fun h1 h2 => ev_call (ea_conse (ev_ixT 1 (ev_var h1) ev_int h2) ea_nil) ⟨_, rfl, rfl⟩
    -- the words of two or three inner ones, the end
    have last : ∀ w1 : Wo, R none w w1 → EvE none (tOp (rEqD K) (tCB (fun xs H Q => ∃ p ys, xs = [.ref p] ∧ (SqL K H p ys ∨ SqT K H p ys) ∧ Q (.int ys.length) H) (tCons (tVar 0) tNil)) (tOp (rI0 fun i j => .int (i + j)) (tC (.int 1)) (tOp (rIxD K wd) (tC (.ref dW)) (tOp (rIxT K) (tVar 0) (tC (.int 0)))))) [.dat (.tuple (.str x :: (pre ++ bs))), .no] w1 (.bool (decide (((pre.length + m + 1 : Nat) : Int) = 1 + (m : Int)))) := fun w1 r =>
      ev_eqI (ev_lenT (ev_var rfl) (by rw [List.length_cons, List.length_append, hb])) (ev_ope ev_int (ev_ixK hd (ev_ixT 0 (ev_var rfl) ev_int rfl)) rd_i)
    cases hw with
    | num n hn =>
      obtain rfl := List.length_eq_zero_iff.mp hb
      refine on_seq (on_ifT (et_word (ev_var rfl) (by decide +kernel) (by decide +kernel)) (by decide +kernel) fun w1 r1 => ?_)
      refine on_ret r1 (D1 := fun e => e = .bool true) ?_ rt
      refine ev_tr2 (EvD.to (ev_eqI (ev_lenT (n := 2) (ev_var rfl) rfl) ev_int) (by rfl)) (ev_tr2 (N rfl rfl) ?_)
      refine EvD.to (ev_ope (ev_abs (ea_conse (ev_ixT 1 (ev_var rfl) ev_int rfl) ea_nil)) (ev_pow (k := 1000000) (by decide) (by decide) (by decide) (by decide)) rd_b) ?_
      rw [decide_eq_true]
      split <;> omega
    | worth p q =>
      obtain rfl := List.length_eq_zero_iff.mp hb
      refine on_seq (on_ifF (et_word (ev_var rfl) (by decide +kernel) (by decide +kernel)) (by decide +kernel) fun w1 r1 => on_next ?_)
      refine on_seq (on_ifT (et_word (ev_var rfl) (by decide +kernel) (by decide +kernel)) (by decide +kernel) fun w2 r2 => ?_)
      refine on_ret (r1.trans r2) (D1 := fun e => e = .bool true) ?_ rt
      refine ev_tr2 (EvD.to (ev_eqI (ev_lenT (n := 3) (ev_var rfl) rfl) ev_int) (by rfl)) ?_
      refine EvD.to (ev_all (bs := [true, true]) (ea_conse (EvN.eve ?_) ea_nil)) rfl
      refine (ev_lc (js := [1]) [p, q] (fun (n : Nat) => .int (n : Int)) (ei_tup (ev_slT (n := 1) (ds := [.str "worth", .int (p : Int), .int (q : Int)]) (ev_var rfl) ev_int (by simp))) (by simp) (by simp) (fun n => [.dat (.tuple [.str "worth", .int (p : Int), .int (q : Int)]), .dat (.int (n : Int))]) (fun _ => .bool true) (fun n _ => tg_name) fun n _ => ?_).imp fun ds h => h
      exact ev_tr2 (ev_call (ea_conse (ev_var rfl) ea_nil) ⟨_, rfl, rfl⟩) (EvD.to (ev_ope (ev_var rfl) ev_int rd_b) (by rw [decide_eq_true (by omega)]))
    | times n hn =>
      obtain ⟨b, rfl⟩ := List.length_eq_one_iff.mp hb
      refine on_seq (on_ifF (et_word (ev_var rfl) (by decide +kernel) (by decide +kernel)) (by decide +kernel) fun w1 r1 => on_next ?_)
      refine on_seq (on_ifF (et_word (ev_var rfl) (by decide +kernel) (by decide +kernel)) (by decide +kernel) fun w2 r2 => on_next ?_)
      refine on_seq (on_ifT (et_word (ev_var rfl) (by decide +kernel) (by decide +kernel)) (by decide +kernel) fun w3 r3 => ?_)
      refine on_ret ((r1.trans r2).trans r3) (D1 := fun e => e = .bool true) ?_ rt
      refine ev_tr2 (EvD.to (ev_eqI (ev_lenT (n := 3) (ev_var rfl) rfl) ev_int) (by rfl)) (ev_tr2 (N rfl rfl) ?_)
      refine EvD.to (ev_ope (ev_abs (ea_conse (ev_ixT 1 (ev_var rfl) ev_int rfl) ea_nil)) (ev_pow (k := 10000) (by decide) (by decide) (by decide) (by decide)) rd_b) ?_
      rw [decide_eq_true]
      split <;> omega
    | rest n h0 hn =>
      obtain ⟨b, rfl⟩ := List.length_eq_one_iff.mp hb
      refine on_seq (on_ifF (et_word (ev_var rfl) (by decide +kernel) (by decide +kernel)) (by decide +kernel) fun w1 r1 => on_next ?_)
      refine on_seq (on_ifF (et_word (ev_var rfl) (by decide +kernel) (by decide +kernel)) (by decide +kernel) fun w2 r2 => on_next ?_)
      refine on_seq (on_ifF (et_word (ev_var rfl) (by decide +kernel) (by decide +kernel)) (by decide +kernel) fun w3 r3 => on_next ?_)
      refine on_seq (on_ifT (et_word (ev_var rfl) (by decide +kernel) (by decide +kernel)) (by decide +kernel) fun w4 r4 => ?_)
      refine on_ret (((r1.trans r2).trans r3).trans r4) (D1 := fun e => e = .bool true) ?_ rt
      refine ev_tr2 (EvD.to (ev_eqI (ev_lenT (n := 3) (ev_var rfl) rfl) ev_int) (by rfl)) (ev_tr2 (N rfl rfl) ?_)
      refine EvD.to (ev_chain ev_int (ev_ixT 1 (ev_var rfl) ev_int rfl) (ev_pow (k := 10000) (by decide) (by decide) (by decide) (by decide))) ?_
      rw [decide_eq_true h0, decide_eq_true hn]
      rfl
    | _ =>
      refine on_seq (on_ifF (et_word (ev_var rfl) (by decide +kernel) (by decide +kernel)) (by decide +kernel) fun w1 r1 => on_next ?_)
      refine on_seq (on_ifF (et_word (ev_var rfl) (by decide +kernel) (by decide +kernel)) (by decide +kernel) fun w2 r2 => on_next ?_)
      refine on_seq (on_ifF (et_word (ev_var rfl) (by decide +kernel) (by decide +kernel)) (by decide +kernel) fun w3 r3 => on_next ?_)
      refine on_seq (on_ifF (et_word (ev_var rfl) (by decide +kernel) (by decide +kernel)) (by decide +kernel) fun w4 r4 => on_next ?_)
      exact on_ret (((r1.trans r2).trans r3).trans r4) (D1 := fun e => e = .bool true) (EvD.to (last w4 (((r1.trans r2).trans r3).trans r4)) (by rfl)) rt⟩
end
end U
end

section
set_option maxRecDepth 100000
set_option maxHeartbeats 4000000
/-! The defs of formulas, second part. -/
namespace U
open PySem PySem.Spec PyProof.Rows L2
section
variable {P : Program} {wd : World} {K : PySem.W.Frag} {mg : Str → Option Value} {base : Heap} {dW : Addr}
/-! inner_of -/
def rel_inner_of : List PyData → PyData → Prop := fun ds d => ∃ w pre bs own m, Wd w pre m own ∧ bs.length = m ∧ ds = [.tuple (.str w :: (pre ++ bs))] ∧ d = .tuple bs
theorem c_inner_of (T : Txt P wd K mg dW) : C8.Cal P wd K mg base 1 "inner_of" (spD rel_inner_of) [] :=
  cal_D T.d_inner_of sc_inner_of (fun ds d ⟨_, _, _, _, _, _, _, h, _⟩ => by rw [h]; rfl) fun f cdv A outer s H E hr => ⟨_, (pss_cons (ps_set (i := 1) sc_inner_of.nd rfl (Or.inl rfl) (pe_ix (r := rIxD K wd) ix_kdict (pe_glob (v := .ref dW) (by rfl) T.g_WORDS rfl) (pe_ix (r := rIxT K) ix_tup (pv 0) pe_int (fun _ _ => rfl)) (fun _ _ => rfl)))
      (pss_one (ps_ret (pe_slice sl_tupA (pv 0) (po_some (pe_op op_sub (pe_callB (r := rLen K) call_len_seq (by rfl) T.len PySem.boot_len (pa_cons (pv 0) pa_nil)) (pv 1))) po_none)))), fun w Q ds d ⟨x, pre, bs, own, m, hw, hb, h1, h2⟩ rt => by
    subst h1 h2
    have hd := w_dct T hw
    refine sq_sete (ev_ixK hd (ev_ixT 0 (ev_var rfl) ev_int rfl)) fun w1 r1 => ?_
    refine on_ret r1 (D1 := fun e => e = .tuple bs) ?_ rt
    have e : ((.str x :: (pre ++ bs) : List PyData)).length = 1 + pre.length + m := by rw [List.length_cons, List.length_append, hb]; omega
    refine EvD.to (ev_slT (n := 1 + pre.length) (ds := .str x :: (pre ++ bs)) (ev_var rfl) (EvD.to (ev_ope (ev_lenT (ev_var rfl) rfl) (ev_var rfl) rd_i) ?_) (by rw [e]; omega)) ?_
    · rw [e]; congr 1; omega
    · rw [Nat.add_comm 1, List.drop_succ_cons, List.drop_left]⟩
/-! deep_of -/
def rel_deep_of (h : Nat) : List PyData → PyData → Prop := fun ds d => ∃ d0 s ns dep, Fm h d0 s ns ∧ h + dep ≤ 5 ∧ ds = [d0, .int (dep : Nat)] ∧ d = .int (s : Nat)
theorem fm_wd {h : Nat} {d : PyData} {s : Nat} {ns : List (Nat × Nat)} (q : Fm h d s ns) : ∃ w pre m own bs t ms g, h = g + 1 ∧ d = .tuple (.str w :: (pre ++ bs)) ∧ Wd w pre m own ∧ bs.length = m ∧ Fms g bs t ms ∧ s = t + 1 ∧ ns = own ++ ms := by
  cases q with
  | mk h1 h2 h3 => exact ⟨_, _, _, _, _, _, _, _, rfl, rfl, h1, h2, h3, rfl, rfl⟩
theorem c_deep_of (T : Txt P wd K mg dW) : ∀ h : Nat, C8.Cal P wd K mg base (h + 3) "deep_of" (spD (rel_deep_of h)) []
  | 0 => cal_no T.d_deep_of sc_deep_of fun vs H Q E ⟨w, ds, d, _, _, ⟨_, _, _, _, h, _⟩, _⟩ => by cases h
  | h + 1 =>
    have c_inner_of := c_inner_of (P := P) (base := base) T
    have c_numbers_fit := c_numbers_fit (P := P) (base := base) T
    have c_deep_of := c_deep_of T h
    cal_D T.d_deep_of sc_deep_of (fun ds d ⟨_, _, _, _, _, _, h, _⟩ => by rw [h]; rfl) fun f cdv A outer s H E hr => ⟨_, (pss_cons (ps_if (PW.pt (pw_or (pt_cmpR op_gt (pv 1) (pe_glob (v := .int 4) (by rfl) T.g_MOST_DEEP.choose_spec ⟨_, rfl⟩) (nomark _)) (pw_or (pt_not (pt_val (pe_callB (r := rIsi K) call_isi (by rfl) T.isinstance (by decide +kernel) (pa_cons (pv 0) (pa_cons (pe_bltn (v := .ty "tuple") (by rfl) T.tuple (by decide +kernel) rfl) pa_nil))))) (pw_or (pt_cmpR (op_eqD hr.units) (pe_callB (r := rLen K) call_len_seq (by rfl) T.len PySem.boot_len (pa_cons (pv 0) pa_nil)) pe_int (nomark _)) (pw_or1 (pt_not (pt_val (pe_callB (r := rIsi K) call_isi (by rfl) T.isinstance (by decide +kernel) (pa_cons (pe_ix (r := rIxT K) ix_tup (pv 0) pe_int (fun _ _ => rfl)) (pa_cons (pe_bltn (v := .ty "str") (by rfl) T.str (by decide +kernel) rfl) pa_nil)))))))))) (pss_one (ps_ret (pe_op op_add (pe_glob (v := .int 15) (by rfl) T.g_MOST_PARTS_formulas.choose_spec ⟨_, rfl⟩) pe_int))) pss_nil)
      (pss_cons (ps_if (PW.pt (pw_or (pt_cmpR (op_notIn_kd T.words.choose_spec.choose_spec) (pe_ix (r := rIxT K) ix_tup (pv 0) pe_int (fun _ _ => rfl)) (pe_glob (v := .ref dW) (by rfl) T.g_WORDS rfl) (by rfl)) (pw_or1 (pt_not (pt_val (C8.pe_c c_numbers_fit hr (by omega) (by rfl) (pa_cons (pv 0) pa_nil))))))) (pss_one (ps_ret (pe_op op_add (pe_glob (v := .int 15) (by rfl) T.g_MOST_PARTS_formulas.choose_spec ⟨_, rfl⟩) pe_int))) pss_nil)
      (pss_one (ps_ret (pe_op op_add pe_int (pe_callB (r := rSum K) (cr_sum rfl) (by rfl) T.sum (by decide +kernel) (pa_cons (pe_lc (own := [("part", 2)]) rfl sc_deep_of.nd (pi_tup (C8.pe_c c_inner_of hr (by omega) (by rfl) (pa_cons (pv 0) pa_nil))) (blkOk_by (own := [("part", 2)]) (N := N_deep_of) (sc := defScope s_deep_of) (by decide +kernel)) (fun _ _ _ _ _ => (pg_name (i := 2) sc_deep_of.nd rfl (Or.inl rfl))) (fun _ _ _ _ _ => pts_nil) (fun _ _ _ _ _ => (C8.pe_c c_deep_of hr (by omega) (by rfl) (pa_cons (pv 2) (pa_cons (pe_op op_add (pv 1) pe_int) pa_nil))))) pa_nil))))))), fun w Q ds d ⟨d0, sz, ns, dep, hf, hdep, h1, h2⟩ rt => by
      subst h1 h2
      obtain ⟨x, pre, m, own, bs, t, ms, g, e1, e2, hw, hb, hs, e3, e4⟩ := fm_wd hf
      obtain rfl : h = g := by omega
      subst e2 e3
      obtain ⟨zs, rfl, hz, rfl, _⟩ := fms_zs hs
      refine sq_ifF (b := false || (false || (false || false))) (et_or (a := false) (et_test (EvD.to (ev_ope (ev_var rfl) ev_int rd_b) (by rw [decide_eq_false (by omega)]))) fun _ => et_or (a := false) (et_not (b := true) (et_test (ev_isi (d := .tuple (.str x :: (pre ++ zs.map (·.1)))) (ev_var rfl) kit_same))) fun _ => et_or (a := false) (et_test (EvD.to (ev_eqI (ev_lenT (ev_var rfl) rfl) ev_int) (by rw [decide_eq_false]; rw [List.length_cons]; omega))) fun _ => et_not (b := true) (et_test (ev_isi (d := .str x) (ev_ixT 0 (ev_var rfl) ev_int rfl) kit_same))) rfl fun w1 r1 => ?_
      obtain ⟨tk, hx⟩ := w_word T hw
      refine sq_ifF (b := false || false) (et_or (a := false) (et_test (ev_ninK (D := dW) (ev_ixT 0 (ev_var rfl) ev_int rfl) ⟨_, hx, rfl⟩)) fun _ => et_not (b := true) (et_test (ev_call (ea_conse (ev_var rfl) ea_nil) ⟨x, pre, zs.map (·.1), own, m, hw, hb, rfl, rfl⟩))) rfl fun w2 r2 => ?_
      refine on_ret (r1.trans r2) (D1 := fun e => e = .int (((zs.map (·.2.1)).sum + 1 : Nat) : Int)) ?_ rt
      refine EvD.to (ev_ope ev_int (ev_sumL (ns := (zs.map (·.2.1)).map fun (n : Nat) => (n : Int)) (ea_conse (EvN.eve ?_) ea_nil)) rd_i) (by rw [natsum_int]; congr 1; omega)
      refine (ev_lc (js := [2]) zs (·.1) (ei_tup (ev_call (ea_conse (ev_var rfl) ea_nil) ⟨x, pre, zs.map (·.1), own, m, hw, hb, rfl, rfl⟩)) ?_ (by simp) (fun z => [.dat (.tuple (.str x :: (pre ++ zs.map (·.1)))), .dat (.int (dep : Int)), .dat z.1]) (fun z => .int (z.2.1 : Int)) (fun z _ => tg_name) fun z hzz => ?_).imp fun ds h => ?_
      · have := hw.m3
        rw [List.length_map] at hb
        omega
      · exact ev_call (ea_conse (ev_var rfl) (ea_conse (ev_ope (ev_var rfl) ev_int rd_i) ea_nil)) ⟨z.1, z.2.1, z.2.2, dep + 1, hz z hzz, by omega, by rw [Int.natCast_add]; rfl, rfl⟩
      · rw [h, List.map_map, List.map_map]; rfl⟩
/-! is_formula -/
def rel_is_formula : List PyData → PyData → Prop := fun ds d => ∃ d0 s ns, Fm 3 d0 s ns ∧ ds = [d0] ∧ d = .bool true
theorem c_is_formula (T : Txt P wd K mg dW) : C8.Cal P wd K mg base 7 "is_formula" (spD rel_is_formula) [] :=
  have c_deep_of := c_deep_of (P := P) (base := base) T 3
  cal_D T.d_is_formula sc_is_formula (fun ds d ⟨_, _, _, _, h, _⟩ => by rw [h]; rfl) fun f cdv A outer s H E hr => ⟨_, (pss_one (ps_ret (pe_cmpR op_le (C8.pe_c c_deep_of hr (by omega) (by rfl) (pa_cons (pv 0) (pa_cons pe_int pa_nil))) (pe_glob (v := .int 15) (by rfl) T.g_MOST_PARTS_formulas.choose_spec ⟨_, rfl⟩) (nomark _)))), fun w Q ds d ⟨d0, sz, ns, hf, h1, h2⟩ rt => by
    subst h1 h2
    refine on_ret (R.refl _ _) (D1 := fun e => e = .bool true) ?_ rt
    refine EvD.to (ev_ope (ev_call (ea_conse (ev_var rfl) (ea_conse ev_int ea_nil)) ⟨d0, sz, ns, 1, hf, by omega, rfl, rfl⟩) ev_int rd_b) ?_
    have := fm_size3 hf
    rw [decide_eq_true (by omega)]⟩
/-! names_in -/
def rel_names_in (h : Nat) : List PyData → PyData → Prop := fun ds d => ∃ d0 s ns, Fm h d0 s ns ∧ ns.length ≤ 1000 ∧ ds = [d0] ∧ d = .list (ns.map pD)
theorem flat_le {α : Type} : ∀ (zs : List (List α)) (z : List α), z ∈ zs → z.length ≤ zs.flatten.length
  | y :: zs, z, h => by
    rw [List.flatten_cons, List.length_append]
    rcases List.mem_cons.mp h with rfl | h
    · omega
    · have := flat_le zs z h; omega
theorem c_names_in (T : Txt P wd K mg dW) : ∀ h : Nat, C8.Cal P wd K mg base (h + 2) "names_in" (spD (rel_names_in h)) []
  | 0 => cal_no T.d_names_in sc_names_in fun vs H Q E ⟨w, ds, d, _, _, ⟨_, _, _, h, _⟩, _⟩ => by cases h
  | h + 1 =>
    have c_inner_of := c_inner_of (P := P) (base := base) T
    have c_names_in := c_names_in T h
    cal_D T.d_names_in sc_names_in (fun ds d ⟨_, _, _, _, _, h, _⟩ => by rw [h]; rfl) fun f cdv A outer s H E hr => ⟨_, (pss_cons (ps_if (pt_cmpR (op_eqD hr.units) (pe_ix (r := rIxT K) ix_tup (pv 0) pe_int (fun _ _ => rfl)) pe_str (nomark _)) (pss_one (ps_ret (pe_lst (pa_cons (pe_tup (pa_cons (pe_ix (r := rIxT K) ix_tup (pv 0) pe_int (fun _ _ => rfl)) (pa_cons (pe_ix (r := rIxT K) ix_tup (pv 0) pe_int (fun _ _ => rfl)) pa_nil))) pa_nil)))) pss_nil)
      (pss_cons (ps_set (i := 1) sc_names_in.nd rfl (Or.inl rfl) (pe_lst pa_nil))
      (pss_cons (ps_for PassesOwn.never rfl (pi_tup (C8.pe_c c_inner_of hr (by omega) (by rfl) (pa_cons (pv 0) pa_nil))) (pg_name (i := 2) sc_names_in.nd rfl (Or.inl rfl)) (pss_one (ps_set (i := 1) sc_names_in.nd rfl (Or.inl rfl) (pe_op op_cat (pv 1) (C8.pe_c c_names_in hr (by omega) (by rfl) (pa_cons (pv 2) pa_nil))))))
      (pss_one (ps_ret (pv 1)))))), fun w Q ds d ⟨d0, sz, ns, hf, hl, h1, h2⟩ rt => by
      subst h1 h2
      obtain ⟨x, pre, m, own, bs, t, ms, g, e1, e2, hw, hb, hs, e3, e4⟩ := fm_wd hf
      obtain rfl : h = g := by omega
      subst e2 e3 e4
      by_cases hx : ∃ p q : Nat, x = "worth" ∧ pre = [.int (p : Int), .int (q : Int)] ∧ own = [(p, q)] ∧ bs = []
      · obtain ⟨p, q, rfl, rfl, rfl, rfl⟩ := hx
        obtain rfl : ms = [] := by cases hs; rfl
        refine sq_ifT (et_word (ev_var rfl) (by decide +kernel) (by decide +kernel)) (by decide +kernel) fun w1 r1 => ?_
        refine on_ret r1 (D1 := fun e => e = .list [pD (p, q)]) ?_ rt
        exact EvN.eve ((ev_lst (ea_conse (ev_tupe (ea_conse (ev_ixT 1 (ev_var rfl) ev_int rfl) (ea_conse (ev_ixT 2 (ev_var rfl) ev_int rfl) ea_nil)) (by simp)) ea_nil) fun ds h => by rw [h]; simp).imp fun ds h => h)
      · have hne : (x == ("worth" : Str)) = false ∧ own = [] := by
          cases hw with
          | worth p q => exact absurd ⟨p, q, rfl, rfl, rfl, List.length_eq_zero_iff.mp hb⟩ hx
          | _ => exact ⟨by decide +kernel, rfl⟩
        obtain ⟨hne, rfl⟩ := hne
        obtain ⟨zs, rfl, hz, -, rfl⟩ := fms_zs hs
        rw [List.nil_append] at hl rt
        refine sq_ifF (et_word (ev_var rfl) hw.ok (by decide +kernel)) hne fun w1 r1 => ?_
        refine sq_sete ev_nilL fun w2 r2 => ?_
        refine sq_for (js := [2]) zs (·.1) (ei_tup (ev_call (ea_conse (ev_var rfl) ea_nil) ⟨x, pre, zs.map (·.1), [], m, hw, hb, rfl, rfl⟩)) (r1.trans r2)
          (fun (l : List (Nat × Nat)) => [.dat (.tuple (.str x :: (pre ++ zs.map (·.1)))), .dat (.list (l.map pD)), .no]) (fun l z => l ++ z.2.2) (fun i l => l = ((zs.take i).map (·.2.2)).flatten) [] (.same (.same (.no .nil))) rfl ?_ ?_ ?_
        · intro i l z hzi hiv
          rw [List.take_add_one, hzi, hiv]
          simp
        · intro i l z w' G0 hzi hiv _ r0 x1 x2
          refine ⟨_, tg_name, ?_⟩
          have hzm : z ∈ zs := List.mem_of_getElem? hzi
          have hzl : z.2.2.length ≤ 1000 := Nat.le_trans (flat_le _ _ (List.mem_map.mpr ⟨z, hzm, rfl⟩)) hl
          have hll : l.length ≤ 1000 := by
            have e : (zs.map (·.2.2)).flatten = l ++ ((zs.drop i).map (·.2.2)).flatten := by rw [hiv, ← List.flatten_append, ← List.map_append, List.take_append_drop]
            rw [e, List.length_append] at hl
            omega
          refine on_sete (EvN.eve (ev_catL (ds := l.map pD) (es := z.2.2.map pD) (ev_var rfl) (ev_call (ea_conse (ev_var rfl) ea_nil) ⟨z.1, z.2.1, z.2.2, hz z hzm, hzl, rfl, rfl⟩) (by simp; omega))) fun w3 r3 => ?_
          rw [← List.map_append]
          exact on_nx (r0.trans r3) (x2.trans r3.g) (.same (.same (.no .nil)))
        · intro w' hiv r0 x1
          have e : zs.foldl (fun l z => l ++ z.2.2) [] = (zs.map (·.2.2)).flatten := by rw [hiv, List.take_length]
          rw [e]
          exact on_ret r0 (D1 := fun e => e = .list ((zs.map (·.2.2)).flatten.map pD)) (ev_var rfl) rt⟩
/-! is_from -/
def rel_is_from : List PyData → PyData → Prop := fun ds d => ∃ i lo hi : Int, ds = [.int i, .int lo, .int hi] ∧ d = .bool (decide (lo ≤ i) && decide (i ≤ hi))
theorem c_is_from (T : Txt P wd K mg dW) : C8.Cal P wd K mg base 2 "is_from" (spD rel_is_from) [] :=
  have c_is_number := c_is_number (P := P) (base := base) T
  cal_D T.d_is_from sc_is_from (fun ds d ⟨_, _, _, h, _⟩ => by rw [h]; rfl) fun f cdv A outer s H E hr => ⟨_, (pss_one (ps_ret (pe_and (C8.pe_c c_is_number hr (by omega) (by rfl) (pa_cons (pv 0) pa_nil)) (pe_one (pe_chain op_le op_le (pv 1) (pv 0) (pv 2)))))), fun w Q ds d ⟨i, lo, hi, h1, h2⟩ rt => by
    subst h1 h2
    refine on_ret (R.refl _ _) (D1 := fun e => e = .bool (decide (lo ≤ i) && decide (i ≤ hi))) ?_ rt
    exact ev_and (a := true) (ev_call (ea_conse (ev_var rfl) ea_nil) ⟨i, rfl, rfl⟩) fun _ => ev_chain (ev_var rfl) (ev_var rfl) (ev_var rfl)⟩
theorem from_ok {i lo hi : Int} {d : PyData} (h1 : lo ≤ i) (h2 : i ≤ hi) (e : d = .bool true) : rel_is_from [.int i, .int lo, .int hi] d := ⟨i, lo, hi, rfl, by rw [decide_eq_true h1, decide_eq_true h2, e]; rfl⟩
/-! is_sign -/

def rel_is_sign : List PyData → PyData → Prop := fun ds d => ∃ p : Nat × Nat, p.1 ≤ 2 ∧ p.2 ≤ 2 ∧ ds = [pD p] ∧ d = .bool true
theorem c_is_sign (T : Txt P wd K mg dW) : C8.Cal P wd K mg base 3 "is_sign" (spD rel_is_sign) [] :=
  have c_is_from := c_is_from (P := P) (base := base) T
  cal_D T.d_is_sign sc_is_sign (fun ds d ⟨_, _, _, h, _⟩ => by rw [h]; rfl) fun f cdv A outer s H E hr => ⟨_, (pss_one (ps_ret (pe_and (pe_callB (r := rIsi K) call_isi (by rfl) T.isinstance (by decide +kernel) (pa_cons (pv 0) (pa_cons (pe_bltn (v := .ty "tuple") (by rfl) T.tuple (by decide +kernel) rfl) pa_nil))) (pe_and (pe_cmpR (op_eqD hr.units) (pe_callB (r := rLen K) call_len_seq (by rfl) T.len PySem.boot_len (pa_cons (pv 0) pa_nil)) pe_int (nomark _)) (pe_one (pe_callB (r := rAll K) (cr_all rfl) (by rfl) T.all (by decide +kernel) (pa_cons (pe_lc (own := [("part", 1)]) rfl sc_is_sign.nd (pi_tup (pv 0)) (blkOk_by (own := [("part", 1)]) (N := N_is_sign) (sc := defScope s_is_sign) (by decide +kernel)) (fun _ _ _ _ _ => (pg_name (i := 1) sc_is_sign.nd rfl (Or.inl rfl))) (fun _ _ _ _ _ => pts_nil) (fun _ _ _ _ _ => (C8.pe_c c_is_from hr (by omega) (by rfl) (pa_cons (pv 1) (pa_cons pe_int (pa_cons (pe_glob (v := .int 2) (by rfl) T.g_MOST_WORTHS.choose_spec ⟨_, rfl⟩) pa_nil)))))) pa_nil))))))), fun w Q ds d ⟨⟨p, q⟩, hp, hq, h1, h2⟩ rt => by
    subst h1 h2
    refine on_ret (R.refl _ _) (D1 := fun e => e = .bool true) ?_ rt
    refine ev_tr2 (ev_isi (d := pD (p, q)) (ev_var rfl) kit_same) (ev_tr2 (EvD.to (ev_eqI (ev_lenT (n := 2) (ds := [.int (p : Int), .int (q : Int)]) (ev_var rfl) rfl) ev_int) (by rfl)) ?_)
    refine EvD.to (ev_all (bs := [true, true]) (ea_conse (EvN.eve ?_) ea_nil)) rfl
    refine (ev_lc (js := [1]) [p, q] (fun (n : Nat) => .int (n : Int)) (ei_tup (ev_var rfl)) (by simp) (by simp) (fun n => [.dat (pD (p, q)), .dat (.int (n : Int))]) (fun _ => .bool true) (fun n _ => tg_name) fun n hn => ?_).imp fun ds h => h
    refine ev_call (ea_conse (ev_var rfl) (ea_conse ev_int (ea_conse ev_int ea_nil))) (from_ok (by omega) ?_ rfl)
    have hp : p ≤ 2 := hp
    have hq : q ≤ 2 := hq
    rcases List.mem_cons.mp hn with rfl | hn
    · omega
    · rcases List.mem_cons.mp hn with rfl | hn
      · omega
      · cases hn⟩
end
end U
end

section
set_option maxRecDepth 100000
set_option maxHeartbeats 4000000
/-! The defs of books. -/
namespace U
open PySem PySem.Spec PyProof.Rows L2
section
variable {P : Program} {wd : World} {K : PySem.W.Frag} {mg : Str → Option Value} {base : Heap} {dW : Addr}
/-! worths_of_place -/
def rel_worths_of_place : List PyData → PyData → Prop := fun ds d => ∃ (sg : List (Nat × Nat)) (r : Rl) (p : Nat), r.sign < sg.length ∧ (∀ q ∈ r.parts, q < sg.length) ∧ r.parts.length ≤ 2 ∧ ds = [.list (sg.map pD), rD r, .int (p : Int)] ∧ d = .int (wop sg r.sign r.parts p : Nat)
theorem c_worths_of_place (T : Txt P wd K mg dW) : C8.Cal P wd K mg base 1 "worths_of_place" (spD rel_worths_of_place) [] :=
  cal_D T.d_worths_of_place sc_worths_of_place (fun ds d ⟨_, _, _, _, _, _, h, _⟩ => by rw [h]; rfl) fun f cdv A outer s H E hr => ⟨_, (pss_cons (ps_set (i := 3) sc_worths_of_place.nd rfl (Or.inl rfl) (pe_op (r := rCatA K) op_catA (pe_tup (pa_cons (pe_ix (r := rIxT K) ix_tup (pv 1) pe_int (fun _ _ => rfl)) pa_nil)) (pe_ix (r := rIxT K) ix_tup (pv 1) pe_int (fun _ _ => rfl))))
      (pss_cons (ps_if (pt_cmpR op_ge (pv 2) (pe_callB (r := rLen K) call_len_seq (by rfl) T.len PySem.boot_len (pa_cons (pv 3) pa_nil)) (nomark _)) (pss_one (ps_ret pe_int)) pss_nil)
      (pss_one (ps_ret (pe_callB (r := rSumT K) (cr_sumT rfl) (by rfl) T.sum (by decide +kernel) (pa_cons (pe_ix (r := rIxL K) ix_list (pv 0) (pe_ix (r := rIxT K) ix_tup (pv 3) (pv 2) (fun _ _ => rfl)) (fun _ _ => rfl)) pa_nil)))))), fun w Q ds d ⟨sg, r, p, hs, hp, hl, h1, h2⟩ rt => by
    subst h1 h2
    refine sq_sete (d := .tuple ((r.sign :: r.parts).map iD)) (ev_ope (ev_tupe (ea_conse (ev_ixT 0 (ds := [.int (r.sign : Int), .tuple (r.parts.map iD), .list r.fs]) (ev_var rfl) ev_int rfl) ea_nil) (by simp)) (ev_ixT 1 (ds := [.int (r.sign : Int), .tuple (r.parts.map iD), .list r.fs]) (ev_var rfl) ev_int rfl) (rd_catT (by simp; omega))) fun w1 r1 => ?_
    refine sq_if (et_test (ev_ope (ev_var rfl) (ev_lenT (n := (r.sign :: r.parts).length) (ev_var rfl) (by simp)) rd_b)) (fun w2 r2 hb => ?_) fun w2 r2 hb => ?_
    · have hb := of_decide_eq_true hb
      refine on_ret (r1.trans r2) (D1 := fun e => e = .int (wop sg r.sign r.parts p : Nat)) (EvD.to ev_int ?_) rt
      have : (r.sign :: r.parts)[p]? = none := List.getElem?_eq_none (by omega)
      unfold wop
      rw [this]
      rfl
    · have hb := of_decide_eq_false hb
      have hlt : p < (r.sign :: r.parts).length := by omega
      have hq : (r.sign :: r.parts)[p]? = some (r.sign :: r.parts)[p] := List.getElem?_eq_getElem hlt
      have hm : (r.sign :: r.parts)[p] < sg.length := by
        have := List.getElem_mem hlt
        rcases List.mem_cons.mp this with e | e
        · rw [e]; exact hs
        · exact hp _ e
      refine on_ret (r1.trans r2) (D1 := fun e => e = .int (wop sg r.sign r.parts p : Nat)) ?_ rt
      refine EvD.to (ev_sumT (ns := [((sg.getD (r.sign :: r.parts)[p] (0, 0)).1 : Int), ((sg.getD (r.sign :: r.parts)[p] (0, 0)).2 : Int)]) (ea_conse (ev_ixL _ (ev_var rfl) (ev_ixT p (ev_var rfl) (ev_var rfl) (getMap hq)) (getSg hm)) ea_nil)) ?_
      unfold wop
      rw [hq]
      simp⟩
/-! names_told -/
def rel_names_told : List PyData → PyData → Prop := fun ds d => ∃ (sg : List (Nat × Nat)) (r : Rl), SgOk sg ∧ r.sign < sg.length ∧ (∀ q ∈ r.parts, q < sg.length) ∧ r.parts.length ≤ 2 ∧ ds = [.list (sg.map pD), rD r] ∧ d = .list ((toldN sg r.sign r.parts).map pD)
theorem c_names_told (T : Txt P wd K mg dW) : C8.Cal P wd K mg base 1 "names_told" (spD rel_names_told) [] :=
  cal_D T.d_names_told sc_names_told (fun ds d ⟨_, _, _, _, _, _, h, _⟩ => by rw [h]; rfl) fun f cdv A outer s H E hr => ⟨_, (pss_cons (ps_asg (pe_ix (r := rIxL K) ix_list (pv 0) (pe_ix (r := rIxT K) ix_tup (pv 1) pe_int (fun _ _ => rfl)) (fun _ _ => rfl)) (pg_tup rfl (pgs_cons (pg_name (i := 2) sc_names_told.nd rfl (Or.inr rfl)) (pgs_cons (pg_name (i := 3) sc_names_told.nd rfl (Or.inl rfl)) pgs_nil))))
      (pss_cons (ps_setLc (i := 4) (own := [("k", 7)]) rfl sc_names_told.nd rfl rfl (sw_true rfl rfl rfl (by decide +kernel)) (pi_range1 (by rfl) T.range (pa_cons (pv 3) pa_nil)) (blkOk_by (own := [("k", 7)]) (N := N_names_told) (sc := defScope s_names_told) (by decide +kernel)) (fun _ _ _ _ _ => (pg_name (i := 7) sc_names_told.nd rfl (Or.inl rfl))) (fun _ _ _ _ _ => pts_nil) (fun _ _ _ _ _ => (pe_tup (pa_cons pe_int (pa_cons (pe_op op_add (pv 2) (pv 7)) pa_nil)))))
      (pss_cons (ps_for PassesOwn.never rfl (pi_enumT (by rfl) T.enumerate (pa_cons (pe_ix (r := rIxT K) ix_tup (pv 1) pe_int (fun _ _ => rfl)) pa_nil)) (pg_tup rfl (pgs_cons (pg_name (i := 5) sc_names_told.nd rfl (Or.inr rfl)) (pgs_cons (pg_name (i := 6) sc_names_told.nd rfl (Or.inl rfl)) pgs_nil))) (pss_one (ps_set (i := 4) sc_names_told.nd rfl (Or.inl rfl) (pe_op op_cat (pv 4) (pe_lc (own := [("k", 7)]) rfl sc_names_told.nd (pi_range1 (by rfl) T.range (pa_cons (pe_ix (r := rIxT K) ix_tup (pe_ix (r := rIxL K) ix_list (pv 0) (pv 6) (fun _ _ => rfl)) pe_int (fun _ _ => rfl)) pa_nil)) (blkOk_by (own := [("k", 7)]) (N := N_names_told) (sc := defScope s_names_told) (by decide +kernel)) (fun _ _ _ _ _ => (pg_name (i := 7) sc_names_told.nd rfl (Or.inl rfl))) (fun _ _ _ _ _ => pts_nil) (fun _ _ _ _ _ => (pe_tup (pa_cons (pe_op op_add (pv 5) pe_int) (pa_cons (pv 7) pa_nil)))))))))
      (pss_one (ps_ret (pv 4)))))), fun w Q ds d ⟨sg, r, hok, hs, hp, hl, h1, h2⟩ rt => by
    subst h1 h2
    have b0 := hok.at r.sign
    refine sq_asg (ev_ixL r.sign (ev_var rfl) (ev_ixT 0 (ds := [.int (r.sign : Int), .tuple (r.parts.map iD), .list r.fs]) (ev_var rfl) ev_int rfl) (getSg hs)) (tg_tup (tgs_cons tg_name (tgs_cons tg_name tgs_nil))) fun w1 r1 => ?_
    refine sq_sete (d := .list (((List.range (sg.getD r.sign (0, 0)).2).map fun k => (0, (sg.getD r.sign (0, 0)).1 + k)).map pD)) (EvD.to (EvN.eve (ev_lc (js := [7]) (List.range (sg.getD r.sign (0, 0)).2) (fun (i : Nat) => .int (i : Int)) (ei_range1 (ea_conse (ev_var rfl) ea_nil) (by omega)) (by rw [List.length_range]; omega) (by simp)
      (fun k => [.dat (.list (sg.map pD)), .dat (rD r), .dat (.int ((sg.getD r.sign (0, 0)).1 : Int)), .dat (.int ((sg.getD r.sign (0, 0)).2 : Int)), .no, .no, .no, .dat (.int (k : Int))]) (fun k => pD (0, (sg.getD r.sign (0, 0)).1 + k)) (fun k _ => tg_name) fun k _ => EvD.to (ev_tupe (ea_conse ev_int (ea_conse (ev_ope (ev_var rfl) (ev_var rfl) rd_i) ea_nil)) (by simp)) (by rw [← Int.natCast_add]; rfl))) (by rw [List.map_map]; rfl)) fun w2 r2 => ?_
    refine sq_for (js := [5, 6]) r.parts.zipIdx (fun q => .tuple [.int (q.2 : Int), iD q.1]) (EvI.eq (ei_enumT (ea_conse (ev_ixT 1 (ds := [.int (r.sign : Int), .tuple (r.parts.map iD), .list r.fs]) (ev_var rfl) ev_int rfl) ea_nil)) (enum_map iD r.parts)) (r1.trans r2)
      (fun (l : List (Nat × Nat)) => [.dat (.list (sg.map pD)), .dat (rD r), .no, .no, .dat (.list (l.map pD)), .no, .no, .no]) (fun l q => l ++ (List.range (sg.getD q.1 (0, 0)).1).map fun k => (q.2 + 1, k)) (fun i l => l.length ≤ 2 + i * 2)
      ((List.range (sg.getD r.sign (0, 0)).2).map fun k => (0, (sg.getD r.sign (0, 0)).1 + k)) (.same (.same (.no (.no (.same (.no (.no (.no .nil)))))))) (by rw [List.length_map, List.length_range]; omega) ?_ ?_ ?_
    · intro i l q hq hi
      rw [List.length_append, List.length_map, List.length_range]
      have := (hok.at q.1).1
      omega
    · intro i l q w' G0 hq hi _ r0 x1 x2
      have hqm : q.1 < sg.length := hp _ (by
        have := List.mem_of_getElem? hq
        rw [List.mem_zipIdx_iff_getElem?] at this
        exact List.mem_of_getElem? this)
      have hi2 : i < 2 := by
        have := (List.getElem?_eq_some_iff.mp hq).1
        rw [List.length_zipIdx] at this
        omega
      have b1 := (hok.at q.1).1
      refine ⟨_, tg_tup (tgs_cons tg_name (tgs_cons tg_name tgs_nil)), ?_⟩
      refine on_sete (EvN.eve (ev_catL (ds := l.map pD) (es := ((List.range (sg.getD q.1 (0, 0)).1).map fun k => (q.2 + 1, k)).map pD) (ev_var rfl) (EvD.to (EvN.eve (ev_lc (js := [7]) (List.range (sg.getD q.1 (0, 0)).1) (fun (i : Nat) => .int (i : Int)) (ei_range1 (ea_conse (ev_ixT 0 (ds := [.int ((sg.getD q.1 (0, 0)).1 : Int), .int ((sg.getD q.1 (0, 0)).2 : Int)]) (ev_ixL q.1 (ev_var rfl) (ev_var rfl) (getSg hqm)) ev_int rfl) ea_nil) (by omega)) (by rw [List.length_range]; omega) (by simp)
        (fun k => [.dat (.list (sg.map pD)), .dat (rD r), .no, .no, .dat (.list (l.map pD)), .dat (.int (q.2 : Int)), .dat (.int (q.1 : Int)), .dat (.int (k : Int))]) (fun k => pD (q.2 + 1, k)) (fun k _ => tg_name) fun k _ => ev_tupe (ea_conse (ev_ope (ev_var rfl) ev_int rd_i) (ea_conse (ev_var rfl) ea_nil)) (by simp))) (by rw [List.map_map]; rfl)) (by rw [List.length_map, List.length_map, List.length_map, List.length_range]; omega))) fun w3 r3 => ?_
      rw [← List.map_append]
      exact on_nx (r0.trans r3) (x2.trans r3.g) (.same (.same (.no (.no (.same (.no (.no (.no .nil))))))))
    · intro w' hiv r0 x1
      exact on_ret r0 (D1 := fun e => e = .list ((toldN sg r.sign r.parts).map pD)) (ev_var rfl) rt⟩
/-! is_making -/
def rel_is_making : List PyData → PyData → Prop := fun ds d => ∃ (sg : List (Nat × Nat)) (r : Rl) (fm : PyData), r.sign < sg.length ∧ (∀ q ∈ r.parts, q < sg.length) ∧ r.parts.length ≤ 2 ∧ FmOk sg r.sign r.parts fm ∧ ds = [.list (sg.map pD), rD r, fm] ∧ d = .bool true
theorem c_is_making (T : Txt P wd K mg dW) : C8.Cal P wd K mg base 8 "is_making" (spD rel_is_making) [] :=
  have c_is_formula := c_is_formula (P := P) (base := base) T
  have c_names_in := c_names_in (P := P) (base := base) T 3
  have c_worths_of_place := c_worths_of_place (P := P) (base := base) T
  cal_D T.d_is_making sc_is_making (fun ds d ⟨_, _, _, _, _, _, _, h, _⟩ => by rw [h]; rfl) fun f cdv A outer s H E hr => ⟨_, (pss_cons (ps_if (pt_not (pt_val (C8.pe_c c_is_formula hr (by omega) (by rfl) (pa_cons (pv 2) pa_nil)))) (pss_one (ps_ret pe_bl)) pss_nil)
      (pss_one (ps_ret (pe_callB (r := rAll K) (cr_all rfl) (by rfl) T.all (by decide +kernel) (pa_cons (pe_lc (own := [("place", 3), ("number", 4)]) (g := (gTup K 2 (gCons (gName 3) (gCons (gName 4) gNil)))) rfl sc_is_making.nd (pi_list (C8.pe_c c_names_in hr (by omega) (by rfl) (pa_cons (pv 2) pa_nil))) (blkOk_by (own := [("place", 3), ("number", 4)]) (N := N_is_making) (sc := defScope s_is_making) (by decide +kernel)) (fun _ _ _ _ _ => (pg_tup rfl (pgs_cons (pg_name (i := 3) sc_is_making.nd rfl (Or.inl rfl)) (pgs_cons (pg_name (i := 4) sc_is_making.nd rfl (Or.inl rfl)) pgs_nil)))) (fun _ _ _ _ _ => pts_nil) (fun _ _ _ _ _ => (pe_cmpR op_lt (pv 4) (C8.pe_c c_worths_of_place hr (by omega) (by rfl) (pa_cons (pv 0) (pa_cons (pv 1) (pa_cons (pv 3) pa_nil)))) (nomark _)))) pa_nil))))), fun w Q ds d ⟨sg, r, fm, hs, hp, hl, ⟨sz, ns, hf, hnl, hn⟩, h1, h2⟩ rt => by
    subst h1 h2
    refine sq_ifF (b := false) (et_not (b := true) (et_test (ev_call (ea_conse (ev_var rfl) ea_nil) ⟨fm, sz, ns, hf, rfl, rfl⟩))) rfl fun w1 r1 => ?_
    refine on_ret r1 (D1 := fun e => e = .bool true) ?_ rt
    refine ev_allT (js := [3, 4]) ns pD (ei_list (ev_call (ea_conse (ev_var rfl) ea_nil) ⟨fm, sz, ns, hf, hnl, rfl, rfl⟩)) (by omega) (by simp) (fun q => [.dat (.list (sg.map pD)), .dat (rD r), .dat fm, .dat (.int (q.1 : Int)), .dat (.int (q.2 : Int))]) (fun q _ => tg_tup (tgs_cons tg_name (tgs_cons tg_name tgs_nil))) fun q hq => ?_
    refine EvD.to (ev_ope (ev_var rfl) (ev_call (ea_conse (ev_var rfl) (ea_conse (ev_var rfl) (ea_conse (ev_var rfl) ea_nil))) ⟨sg, r, q.1, hs, hp, hl, rfl, rfl⟩) rd_b) ?_
    rw [decide_eq_true (by have := hn q hq; omega)]⟩
/-! is_rule -/
def rel_is_rule : List PyData → PyData → Prop := fun ds d => ∃ (sg : List (Nat × Nat)) (r : Rl), SgOk sg ∧ RlOk sg r ∧ ds = [.list (sg.map pD), rD r] ∧ d = .bool true
theorem c_is_rule (T : Txt P wd K mg dW) : C8.Cal P wd K mg base 9 "is_rule" (spD rel_is_rule) [] :=
  have c_is_from := c_is_from (P := P) (base := base) T
  have c_is_making := c_is_making (P := P) (base := base) T
  have c_names_told := c_names_told (P := P) (base := base) T
  cal_D T.d_is_rule sc_is_rule (fun ds d ⟨_, _, _, _, h, _⟩ => by rw [h]; rfl) fun f cdv A outer s H E hr => ⟨_, (pss_cons (ps_if (PW.pt (pw_or (pt_not (pt_val (pe_callB (r := rIsi K) call_isi (by rfl) T.isinstance (by decide +kernel) (pa_cons (pv 1) (pa_cons (pe_bltn (v := .ty "tuple") (by rfl) T.tuple (by decide +kernel) rfl) pa_nil))))) (pw_or (pt_cmpR (op_neD hr.units) (pe_callB (r := rLen K) call_len_seq (by rfl) T.len PySem.boot_len (pa_cons (pv 1) pa_nil)) pe_int (nomark _)) (pw_or1 (pt_not (pt_val (C8.pe_c c_is_from hr (by omega) (by rfl) (pa_cons (pe_ix (r := rIxT K) ix_tup (pv 1) pe_int (fun _ _ => rfl)) (pa_cons pe_int (pa_cons (pe_op op_sub (pe_callB (r := rLen K) call_len_seq (by rfl) T.len PySem.boot_len (pa_cons (pv 0) pa_nil)) pe_int) pa_nil)))))))))) (pss_one (ps_ret pe_bl)) pss_nil)
      (pss_cons (ps_if (PW.pt (pw_or (pt_not (pt_val (pe_callB (r := rIsi K) call_isi (by rfl) T.isinstance (by decide +kernel) (pa_cons (pe_ix (r := rIxT K) ix_tup (pv 1) pe_int (fun _ _ => rfl)) (pa_cons (pe_bltn (v := .ty "tuple") (by rfl) T.tuple (by decide +kernel) rfl) pa_nil))))) (pw_or (pt_cmpR op_gt (pe_callB (r := rLen K) call_len_seq (by rfl) T.len PySem.boot_len (pa_cons (pe_ix (r := rIxT K) ix_tup (pv 1) pe_int (fun _ _ => rfl)) pa_nil)) (pe_glob (v := .int 2) (by rfl) T.g_MOST_PARTS_books.choose_spec ⟨_, rfl⟩) (nomark _)) (pw_or1 (pt_not (pt_val (pe_callB (r := rIsi K) call_isi (by rfl) T.isinstance (by decide +kernel) (pa_cons (pe_ix (r := rIxT K) ix_tup (pv 1) pe_int (fun _ _ => rfl)) (pa_cons (pe_bltn (v := .ty "list") (by rfl) T.list (by decide +kernel) rfl) pa_nil))))))))) (pss_one (ps_ret pe_bl)) pss_nil)
      (pss_cons (ps_if (pt_not (pt_val (pe_callB (r := rAll K) (cr_all rfl) (by rfl) T.all (by decide +kernel) (pa_cons (pe_lc (own := [("part", 2)]) rfl sc_is_rule.nd (pi_tup (pe_ix (r := rIxT K) ix_tup (pv 1) pe_int (fun _ _ => rfl))) (blkOk_by (own := [("part", 2)]) (N := N_is_rule) (sc := defScope s_is_rule) (by decide +kernel)) (fun _ _ _ _ _ => (pg_name (i := 2) sc_is_rule.nd rfl (Or.inl rfl))) (fun _ _ _ _ _ => pts_nil) (fun _ _ _ _ _ => (C8.pe_c c_is_from hr (by omega) (by rfl) (pa_cons (pv 2) (pa_cons pe_int (pa_cons (pe_op op_sub (pe_callB (r := rLen K) call_len_seq (by rfl) T.len PySem.boot_len (pa_cons (pv 0) pa_nil)) pe_int) pa_nil)))))) pa_nil)))) (pss_one (ps_ret pe_bl)) pss_nil)
      (pss_cons (ps_if (pt_cmpR (op_neD hr.units) (pe_callB (r := rLen K) call_len_seq (by rfl) T.len PySem.boot_len (pa_cons (pe_ix (r := rIxT K) ix_tup (pv 1) pe_int (fun _ _ => rfl)) pa_nil)) (pe_callB (r := rLen K) call_len_seq (by rfl) T.len PySem.boot_len (pa_cons (C8.pe_c c_names_told hr (by omega) (by rfl) (pa_cons (pv 0) (pa_cons (pv 1) pa_nil))) pa_nil)) (nomark _)) (pss_one (ps_ret pe_bl)) pss_nil)
      (pss_one (ps_ret (pe_callB (r := rAll K) (cr_all rfl) (by rfl) T.all (by decide +kernel) (pa_cons (pe_lc (own := [("part", 2)]) rfl sc_is_rule.nd (pi_list (pe_ix (r := rIxT K) ix_tup (pv 1) pe_int (fun _ _ => rfl))) (blkOk_by (own := [("part", 2)]) (N := N_is_rule) (sc := defScope s_is_rule) (by decide +kernel)) (fun _ _ _ _ _ => (pg_name (i := 2) sc_is_rule.nd rfl (Or.inl rfl))) (fun _ _ _ _ _ => pts_nil) (fun _ _ _ _ _ => (C8.pe_c c_is_making hr (by omega) (by rfl) (pa_cons (pv 0) (pa_cons (pv 1) (pa_cons (pv 2) pa_nil)))))) pa_nil)))))))), fun w Q ds d ⟨sg, r, hok, hr2, h1, h2⟩ rt => by
    subst h1 h2
    have ix : ∀ {Γ : List De} {w1 : Wo} {j : Nat} {e : PyData}, Γ[1]? = some (.dat (rD r)) → [PyData.int (r.sign : Int), .tuple (r.parts.map iD), .list r.fs][j]? = some e → EvE none (tOp (rIxT K) (tVar 1) (tC (.int (j : Int)))) Γ w1 e := fun h1 h2 => ev_ixT _ (ds := [.int (r.sign : Int), .tuple (r.parts.map iD), .list r.fs]) (ev_var h1) ev_int h2
    have fr : ∀ {Γ : List De} {w1 : Wo} {te : TE} {p : Nat}, Γ[0]? = some (.dat (.list (sg.map pD))) → p < sg.length → EvE none te Γ w1 (.int (p : Int)) → EvE none (tCall (spD rel_is_from) [] C8.E0 (tCons te (tCons (tC (.int 0)) (tCons (tOp (rI0 fun i j => .int (i - j)) (tCB (fun xs H Q => ∃ p ys, xs = [.ref p] ∧ (SqL K H p ys ∨ SqT K H p ys) ∧ Q (.int ys.length) H) (tCons (tVar 0) tNil)) (tC (.int 1))) tNil)))) Γ w1 (.bool true) := fun h1 h2 h3 =>
      ev_call (ea_conse h3 (ea_conse ev_int (ea_conse (ev_ope (ev_lenL (n := sg.length) (ev_var h1) (by simp)) ev_int rd_i) ea_nil))) (from_ok (by omega) (by omega) rfl)
    refine sq_ifF (b := false || (false || false)) (et_or (a := false) (et_not (b := true) (et_test (ev_isi (d := rD r) (ev_var rfl) kit_same))) fun _ => et_or (a := false) (et_test (EvD.to (ev_neI (ev_lenT (n := 3) (ds := [.int (r.sign : Int), .tuple (r.parts.map iD), .list r.fs]) (ev_var rfl) rfl) ev_int) (by rfl))) fun _ => et_not (b := true) (et_test (fr rfl hr2.sg_lt (ix (j := 0) rfl rfl)))) rfl fun w1 r1 => ?_
    refine sq_ifF (b := false || (false || false)) (et_or (a := false) (et_not (b := true) (et_test (ev_isi (d := .tuple (r.parts.map iD)) (ix (j := 1) rfl rfl) kit_same))) fun _ => et_or (a := false) (et_test (EvD.to (ev_ope (ev_lenT (n := r.parts.length) (ix (j := 1) rfl rfl) (by simp)) ev_int rd_b) (by rw [decide_eq_false (by have := hr2.p2; omega)]))) fun _ => et_not (b := true) (et_test (ev_isi (d := .list r.fs) (ix (j := 2) rfl rfl) kit_same))) rfl fun w2 r2 => ?_
    refine sq_ifF (b := false) (et_not (b := true) (et_test (ev_allT (js := [2]) r.parts iD (ei_tup (ix (j := 1) rfl rfl)) (by have := hr2.p2; omega) (by simp) (fun p => [.dat (.list (sg.map pD)), .dat (rD r), .dat (iD p)]) (fun p _ => tg_name) fun p hp => fr rfl (hr2.pt p hp) (ev_var rfl)))) rfl fun w3 r3 => ?_
    refine sq_ifF (b := false) (et_test (EvD.to (ev_neI (ev_lenL (n := r.fs.length) (ix (j := 2) rfl rfl) rfl) (ev_lenL (n := (toldN sg r.sign r.parts).length) (ev_call (ea_conse (ev_var rfl) (ea_conse (ev_var rfl) ea_nil)) ⟨sg, r, hok, hr2.sg_lt, hr2.pt, hr2.p2, rfl, rfl⟩) (by simp))) (by rw [hr2.fl]; simp))) rfl fun w4 r4 => ?_
    refine on_ret (((r1.trans r2).trans r3).trans r4) (D1 := fun e => e = .bool true) ?_ rt
    have hl : r.fs.length ≤ 6 := by rw [hr2.fl]; exact told_len hok _ hr2.p2
    refine ev_allT (js := [2]) r.fs id (EvI.eq (ei_list (ix (j := 2) rfl rfl)) (by simp)) (by omega) (by simp) (fun p => [.dat (.list (sg.map pD)), .dat (rD r), .dat p]) (fun p _ => tg_name) fun p hp => ?_
    exact ev_call (ea_conse (ev_var rfl) (ea_conse (ev_var rfl) (ea_conse (ev_var rfl) ea_nil))) ⟨sg, r, p, hr2.sg_lt, hr2.pt, hr2.p2, hr2.fm p hp, rfl, rfl⟩⟩
/-! is_book -/
def rel_is_book : List PyData → PyData → Prop := fun ds d => ∃ (sg : List (Nat × Nat)) (rs : List Rl), BOk sg rs ∧ ds = [bD sg rs] ∧ d = .bool true
theorem c_is_book (T : Txt P wd K mg dW) : C8.Cal P wd K mg base 10 "is_book" (spD rel_is_book) [] :=
  have c_is_sign := c_is_sign (P := P) (base := base) T
  have c_is_rule := c_is_rule (P := P) (base := base) T
  cal_D T.d_is_book sc_is_book (fun ds d ⟨_, _, _, h, _⟩ => by rw [h]; rfl) fun f cdv A outer s H E hr => ⟨_, (pss_cons (ps_if (PW.pt (pw_or (pt_not (pt_val (pe_callB (r := rIsi K) call_isi (by rfl) T.isinstance (by decide +kernel) (pa_cons (pv 0) (pa_cons (pe_bltn (v := .ty "tuple") (by rfl) T.tuple (by decide +kernel) rfl) pa_nil))))) (pw_or (pt_cmpR (op_neD hr.units) (pe_callB (r := rLen K) call_len_seq (by rfl) T.len PySem.boot_len (pa_cons (pv 0) pa_nil)) pe_int (nomark _)) (pw_or1 (pt_not (pt_val (pe_callB (r := rAll K) (cr_all rfl) (by rfl) T.all (by decide +kernel) (pa_cons (pe_lc (own := [("part", 5)]) rfl sc_is_book.nd (pi_tup (pv 0)) (blkOk_by (own := [("part", 5)]) (N := N_is_book) (sc := defScope s_is_book) (by decide +kernel)) (fun _ _ _ _ _ => (pg_name (i := 5) sc_is_book.nd rfl (Or.inl rfl))) (fun _ _ _ _ _ => pts_nil) (fun _ _ _ _ _ => (pe_callB (r := rIsi K) call_isi (by rfl) T.isinstance (by decide +kernel) (pa_cons (pv 5) (pa_cons (pe_bltn (v := .ty "list") (by rfl) T.list (by decide +kernel) rfl) pa_nil))))) pa_nil)))))))) (pss_one (ps_ret pe_bl)) pss_nil)
      (pss_cons (ps_asg (pv 0) (pg_tup rfl (pgs_cons (pg_name (i := 1) sc_is_book.nd rfl (Or.inr rfl)) (pgs_cons (pg_name (i := 2) sc_is_book.nd rfl (Or.inl rfl)) pgs_nil))))
      (pss_cons (ps_if (PW.pt (pw_or (pt_cmpR op_lt (pe_callB (r := rLen K) call_len_seq (by rfl) T.len PySem.boot_len (pa_cons (pv 1) pa_nil)) pe_int (nomark _)) (pw_or (pt_cmpR op_gt (pe_callB (r := rLen K) call_len_seq (by rfl) T.len PySem.boot_len (pa_cons (pv 1) pa_nil)) (pe_glob (v := .int 4) (by rfl) T.g_MOST_SIGNS.choose_spec ⟨_, rfl⟩) (nomark _)) (pw_or1 (pt_cmpR op_gt (pe_callB (r := rLen K) call_len_seq (by rfl) T.len PySem.boot_len (pa_cons (pv 2) pa_nil)) (pe_glob (v := .int 8) (by rfl) T.g_MOST_RULES.choose_spec ⟨_, rfl⟩) (nomark _)))))) (pss_one (ps_ret pe_bl)) pss_nil)
      (pss_one (ps_ret (pe_and (pe_callB (r := rAll K) (cr_all rfl) (by rfl) T.all (by decide +kernel) (pa_cons (pe_lc (own := [("sign", 3)]) rfl sc_is_book.nd (pi_list (pv 1)) (blkOk_by (own := [("sign", 3)]) (N := N_is_book) (sc := defScope s_is_book) (by decide +kernel)) (fun _ _ _ _ _ => (pg_name (i := 3) sc_is_book.nd rfl (Or.inl rfl))) (fun _ _ _ _ _ => pts_nil) (fun _ _ _ _ _ => (C8.pe_c c_is_sign hr (by omega) (by rfl) (pa_cons (pv 3) pa_nil)))) pa_nil)) (pe_one (pe_callB (r := rAll K) (cr_all rfl) (by rfl) T.all (by decide +kernel) (pa_cons (pe_lc (own := [("rule", 4)]) rfl sc_is_book.nd (pi_list (pv 2)) (blkOk_by (own := [("rule", 4)]) (N := N_is_book) (sc := defScope s_is_book) (by decide +kernel)) (fun _ _ _ _ _ => (pg_name (i := 4) sc_is_book.nd rfl (Or.inl rfl))) (fun _ _ _ _ _ => pts_nil) (fun _ _ _ _ _ => (C8.pe_c c_is_rule hr (by omega) (by rfl) (pa_cons (pv 1) (pa_cons (pv 4) pa_nil))))) pa_nil))))))))), fun w Q ds d ⟨sg, rs, hok, h1, h2⟩ rt => by
    subst h1 h2
    have a1 := hok.s.l1
    have a4 := hok.s.l4
    have a8 := hok.r8
    refine sq_ifF (b := false || (false || false)) (et_or (a := false) (et_not (b := true) (et_test (ev_isi (d := bD sg rs) (ev_var rfl) kit_same))) fun _ => et_or (a := false) (et_test (EvD.to (ev_neI (ev_lenT (n := 2) (ds := [.list (sg.map pD), .list (rs.map rD)]) (ev_var rfl) rfl) ev_int) (by rfl))) fun _ => et_not (b := true) (et_test (ev_allT (js := [5]) [PyData.list (sg.map pD), .list (rs.map rD)] id (ei_tup (ev_var rfl)) (by simp) (by simp) (fun x => [.dat (bD sg rs), .no, .no, .no, .no, .dat x]) (fun x _ => tg_name) fun x hx => ev_isi (d := x) (ev_var rfl) (by
      rcases List.mem_cons.mp hx with rfl | hx
      · exact kit_same
      · rcases List.mem_cons.mp hx with rfl | hx
        · exact kit_same
        · cases hx)))) rfl fun w1 r1 => ?_
    refine sq_asg (d := bD sg rs) (ev_var rfl) (tg_tup (tgs_cons tg_name (tgs_cons tg_name tgs_nil))) fun w2 r2 => ?_
    refine sq_ifF (b := false || (false || false)) (et_or (a := false) (et_test (EvD.to (ev_ope (ev_lenL (n := sg.length) (ev_var rfl) (by simp)) ev_int rd_b) (by rw [decide_eq_false (by omega)]))) fun _ => et_or (a := false) (et_test (EvD.to (ev_ope (ev_lenL (n := sg.length) (ev_var rfl) (by simp)) ev_int rd_b) (by rw [decide_eq_false (by omega)]))) fun _ => et_test (EvD.to (ev_ope (ev_lenL (n := rs.length) (ev_var rfl) (by simp)) ev_int rd_b) (by rw [decide_eq_false (by omega)]))) rfl fun w3 r3 => ?_
    refine on_ret ((r1.trans r2).trans r3) (D1 := fun e => e = .bool true) ?_ rt
    refine ev_tr2 ?_ ?_
    · exact ev_allT (js := [3]) sg pD (ei_list (ev_var rfl)) (by omega) (by simp) (fun x => [.dat (bD sg rs), .dat (.list (sg.map pD)), .dat (.list (rs.map rD)), .dat (pD x), .no, .no]) (fun x _ => tg_name) fun x hx => ev_call (ea_conse (ev_var rfl) ea_nil) ⟨x, (hok.s.p2 x hx).1, (hok.s.p2 x hx).2, rfl, rfl⟩
    · exact ev_allT (js := [4]) rs rD (ei_list (ev_var rfl)) (by omega) (by simp) (fun x => [.dat (bD sg rs), .dat (.list (sg.map pD)), .dat (.list (rs.map rD)), .no, .dat (rD x), .no]) (fun x _ => tg_name) fun x hx => ev_call (ea_conse (ev_var rfl) (ea_conse (ev_var rfl) ea_nil)) ⟨sg, x, hok.s, hok.r x hx, rfl, rfl⟩⟩
/-! look_at_book, look_at_sign -/
def rel_look_at_book : List PyData → PyData → Prop := fun ds d => ∃ (sg : List (Nat × Nat)) (rs : List Rl), BOk sg rs ∧ ds = [bD sg rs] ∧ d = .none
theorem c_look_at_book (T : Txt P wd K mg dW) : C8.Cal P wd K mg base 11 "look_at_book" (spD rel_look_at_book) [] :=
  have c_is_book := c_is_book (P := P) (base := base) T
  cal_D T.d_look_at_book sc_look_at_book (fun ds d ⟨_, _, _, h, _⟩ => by rw [h]; rfl) fun f cdv A outer s H E hr => ⟨_, (pss_one (ps_if (pt_not (pt_val (C8.pe_c c_is_book hr (by omega) (by rfl) (pa_cons (pv 0) pa_nil)))) (pss_one ps_never) pss_nil)), fun w Q ds d ⟨sg, rs, hok, h1, h2⟩ rt => by
    subst h1 h2
    refine on_ifF (b := false) (et_not (b := true) (et_test (ev_call (ea_conse (ev_var rfl) ea_nil) ⟨sg, rs, hok, rfl, rfl⟩))) rfl fun w1 r1 => ?_
    exact on_end r1 rt⟩
def rel_look_at_sign : List PyData → PyData → Prop := fun ds d => ∃ (sg : List (Nat × Nat)) (rs : List Rl) (s : Nat), BOk sg rs ∧ s < sg.length ∧ ds = [bD sg rs, .int (s : Int)] ∧ d = .none
theorem c_look_at_sign (T : Txt P wd K mg dW) : C8.Cal P wd K mg base 12 "look_at_sign" (spD rel_look_at_sign) [] :=
  have c_look_at_book := c_look_at_book (P := P) (base := base) T
  have c_is_from := c_is_from (P := P) (base := base) T
  cal_D T.d_look_at_sign sc_look_at_sign (fun ds d ⟨_, _, _, _, _, h, _⟩ => by rw [h]; rfl) fun f cdv A outer s H E hr => ⟨_, (pss_cons (ps_expr (C8.pe_c c_look_at_book hr (by omega) (by rfl) (pa_cons (pv 0) pa_nil)))
      (pss_one (ps_if (pt_not (pt_val (C8.pe_c c_is_from hr (by omega) (by rfl) (pa_cons (pv 1) (pa_cons pe_int (pa_cons (pe_op op_sub (pe_callB (r := rLen K) call_len_seq (by rfl) T.len PySem.boot_len (pa_cons (pe_ix (r := rIxT K) ix_tup (pv 0) pe_int (fun _ _ => rfl)) pa_nil)) pe_int) pa_nil)))))) (pss_one ps_never) pss_nil))), fun w Q ds d ⟨sg, rs, sn, hok, hs, h1, h2⟩ rt => by
    subst h1 h2
    refine sq_drop (D1 := fun e => e = .none) (ev_call (ea_conse (ev_var rfl) ea_nil) ⟨sg, rs, hok, rfl, rfl⟩) fun w1 r1 => ?_
    refine on_ifF (b := false) (et_not (b := true) (et_test (ev_call (ea_conse (ev_var rfl) (ea_conse ev_int (ea_conse (ev_ope (ev_lenL (n := sg.length) (ev_ixT 0 (ds := [.list (sg.map pD), .list (rs.map rD)]) (ev_var rfl) ev_int rfl) (by simp)) ev_int rd_i) ea_nil))) (from_ok (by omega) (by omega) rfl)))) rfl fun w2 r2 => ?_
    exact on_end (r1.trans r2) rt⟩
end
end U
end

section
set_option maxRecDepth 100000
set_option maxHeartbeats 4000000
/-! The defs of the least trees. -/
namespace U
open PySem PySem.Spec PyProof.Rows L2 HT2
open KM (at' allSome told better stepL roundL RunsL InvL init)
theorem BOk.bk {sg : List (Nat × Nat)} {rs : List Rl} (h : BOk sg rs) : KM.BkOk rs sg.length := ⟨h.s.l1, h.s.l4, h.r8, fun ru hr => (h.r ru hr).p2, fun ru hr => (h.r ru hr).sg_lt, fun ru hr => (h.r ru hr).pt⟩
theorem zipIdx_round : ∀ (rs : List Rl) (i : Nat) (s : KM.Fd × Bool), (rs.zipIdx i).foldl (fun s q => stepL q.2 q.1 s) s = roundL i rs s
  | [], _, _ => rfl
  | ru :: rs, i, s => by rw [List.zipIdx_cons, List.foldl_cons, zipIdx_round rs (i + 1)]; rfl
theorem any_none (l : List (Option (Nat × KM.T))) : ((l.map eD).any fun z => PyData.eqv z .none) = (allSome l).isNone := by
  induction l with
  | nil => rfl
  | cons x l ih =>
    rw [List.map_cons, List.any_cons, ih, show (PyData.none) = eD none from rfl, eqv_E]
    cases x with
    | none => rfl
    | some p =>
      cases h : allSome l <;> simp [allSome, h]
theorem better_ne {a : Option (Nat × KM.T)} {t : Nat × KM.T} (h : better a t = true) : some t ≠ a := fun e => by
  subst e
  unfold better KM.ltP at h
  simp at h
theorem less_ne (a : Option (Nat × KM.T)) (t : Nat × KM.T) : (!PyData.eqv (eD (if better a t = true then some t else a)) (eD a)) = better a t := by
  rw [eqv_E]
  cases h : better a t with
  | true => rw [if_pos rfl, decide_eq_false (better_ne h)]; rfl
  | false => simp
theorem getFd {fd : KM.Fd} {p : Nat} (h : p < fd.length) : (fd.map eD)[p]? = some (eD (at' fd p)) := getMap (by unfold at'; rw [List.getD_eq_getElem?_getD, List.getElem?_eq_getElem h]; rfl)
theorem lay_Es : ∀ {l : List (Option (Nat × KM.T))}, (∀ x ∈ l, ∀ p, x = some p → p.2.hgt ≤ 31) → PyData.canLayAll0 (l.map eD) = true ∧ PyData.depthAll (l.map eD) ≤ 63
  | [], _ => by simp [PyData.canLayAll0, PyData.depthAll]
  | x :: l, h => by
    have a := lay_Es fun y hy => h y (List.mem_cons_of_mem _ hy)
    have b : (eD x).depth ≤ 63 := by
      cases x with
      | none => simp [eD, PyData.depth]
      | some p =>
        have := h (some p) List.mem_cons_self p rfl
        have := depth_T p.2
        simp [eD, PyData.depth, PyData.depthAll]
        omega
    simp only [List.map_cons, PyData.canLayAll0, PyData.depthAll, lay_E, a.1, Bool.and_true, true_and]
    omega
theorem sh_Es {l : List (Option (Nat × KM.T))} (h : ∀ x ∈ l, ∀ p, x = some p → p.2.hgt ≤ 31) : SeqAt.shaped (.list (l.map eD)) = true := by
  have a := lay_Es h
  refine shaped_of ?_ ?_
  · simp only [PyData.canLay0]; exact a.1
  · simp only [PyData.depth]; omega
theorem sh_none : SeqAt.shaped .none = true := shaped_of (by simp [PyData.canLay0]) (by simp [PyData.depth])
theorem inv_hgt {rs : List Rl} {fd : KM.Fd} (I : InvL rs fd) (h4 : fd.length ≤ 4) {s : Nat} {p : Nat × KM.T} (h : at' fd s = some p) : p.2.hgt ≤ 15 := by
  have a := I.small15 h4 h
  have b := (I.good s p h).k
  have c := KM.hgt_knots p.2
  omega
section
variable {P : Program} {wd : World} {K : PySem.W.Frag} {mg : Str → Option Value} {base : Heap} {dW : Addr}
/-! lesser_tree -/
def rel_lesser_tree : List PyData → PyData → Prop := fun ds d => ∃ (a : Option (Nat × KM.T)) (t : Nat × KM.T), (∀ p, a = some p → p.2.hgt ≤ 31) ∧ t.2.hgt ≤ 31 ∧ ds = [eD a, eD (some t)] ∧ d = eD (if better a t = true then some t else a)
theorem c_lesser_tree (T : Txt P wd K mg dW) : C8.Cal P wd K mg base 1 "lesser_tree" (spD rel_lesser_tree) [] :=
  cal_D T.d_lesser_tree sc_lesser_tree (fun ds d ⟨_, _, _, _, h, _⟩ => by rw [h]; rfl) fun f cdv A outer s H E hr => ⟨_, (pss_cons (ps_if (PW.pt (pw_or (pt_cmp (pc_isN (pv 0))) (pw_or1 (PW.pt (pw_and (pt_cmp (pc_notN (pv 1))) (pw_and1 (pt_cmpR (op_ltD (units_lt hr (by decide))) (pv 1) (pv 0) (nomark _)))))))) (pss_one (ps_ret (pv 1))) pss_nil)
      (pss_one (ps_ret (pv 0)))), fun w Q ds d ⟨a, t, ha, ht, h1, h2⟩ rt => by
    subst h1 h2
    cases a with
    | none =>
      refine sq_ifT (b := true || true) (et_or (a := true) (et_B (ev_isN (d := eD none) (ev_var rfl))) fun h => by cases h) rfl fun w1 r1 => ?_
      exact on_ret r1 (D1 := fun e => e = eD (some t)) (ev_var rfl) rt
    | some p =>
      refine sq_if (b := false || (true && better (some p) t)) (et_or (a := false) (et_B (ev_isN (d := eD (some p)) (ev_var rfl))) fun _ => et_and (a := true) (et_B (EvD.to (ev_notN (d := eD (some t)) (ev_var rfl)) rfl)) fun _ => et_test (EvD.to (ev_ope (d := eD (some t)) (e := eD (some p)) (ev_var rfl) (ev_var rfl) (rd_lt (sh_E fun q hq => by cases hq; exact ht) (sh_E ha) (cm_E t p))) (by rw [ltD_E]; rfl))) (fun w1 r1 hb => ?_) fun w1 r1 hb => ?_
      · refine on_ret r1 (D1 := fun e => e = eD (some t)) (ev_var rfl) ?_
        have hb : better (some p) t = true := hb
        rw [hb] at rt
        exact rt
      · refine on_ret r1 (D1 := fun e => e = eD (some p)) (ev_var rfl) ?_
        have hb : better (some p) t = false := hb
        rw [hb] at rt
        exact rt⟩
/-! least_trees -/
def rel_least_trees : List PyData → PyData → Prop := fun ds d => ∃ (sg : List (Nat × Nat)) (rs : List Rl) (F : KM.Fd), BOk sg rs ∧ RunsL rs (init sg.length) F ∧ ds = [bD sg rs] ∧ d = .list (F.map eD)
theorem c_least_trees (T : Txt P wd K mg dW) : C8.Cal P wd K mg base 2 "least_trees" (spD rel_least_trees) [] :=
  have c_lesser_tree := c_lesser_tree (P := P) (base := base) T
  cal_D T.d_least_trees sc_least_trees (fun ds d ⟨_, _, _, _, _, h, _⟩ => by rw [h]; rfl) fun f cdv A outer s H E hr => ⟨_, (pss_cons (ps_set (i := 1) sc_least_trees.nd rfl (Or.inr rfl) (pe_op op_rep (pe_lst (pa_cons pe_non pa_nil)) (pe_callB (r := rLen K) call_len_seq (by rfl) T.len PySem.boot_len (pa_cons (pe_ix (r := rIxT K) ix_tup (pv 0) pe_int (fun _ _ => rfl)) pa_nil))))
      (pss_cons (ps_set (i := 2) sc_least_trees.nd rfl (Or.inl rfl) pe_bl)
      (pss_cons (ps_while PassesOwn.never (pt_val (pv 2)) (pss_cons (ps_set (i := 2) sc_least_trees.nd rfl (Or.inl rfl) pe_bl)
      (pss_one (ps_for PassesOwn.never rfl (pi_enum (by rfl) T.enumerate (pa_cons (pe_ix (r := rIxT K) ix_tup (pv 0) pe_int (fun _ _ => rfl)) pa_nil)) (pg_tup rfl (pgs_cons (pg_name (i := 3) sc_least_trees.nd rfl (Or.inl rfl)) (pgs_cons (pg_tup rfl (pgs_cons (pg_name (i := 4) sc_least_trees.nd rfl (Or.inl rfl)) (pgs_cons (pg_name (i := 5) sc_least_trees.nd rfl (Or.inl rfl)) (pgs_cons (pg_name (i := 6) sc_least_trees.nd rfl (Or.inl rfl)) pgs_nil)))) pgs_nil))) (pss_cons (ps_setLc (i := 7) (own := [("part", 9)]) rfl sc_least_trees.nd rfl rfl (sw_true rfl rfl rfl (by decide +kernel)) (pi_tup (pv 5)) (blkOk_by (own := [("part", 9)]) (N := N_least_trees) (sc := defScope s_least_trees) (by decide +kernel)) (fun _ _ _ _ _ => (pg_name (i := 9) sc_least_trees.nd rfl (Or.inl rfl))) (fun _ _ _ _ _ => pts_nil) (fun _ _ _ _ _ => (pe_ix (r := rIxL K) ix_list (pv 1) (pv 9) (fun _ _ => rfl))))
      (pss_one (ps_if (pt_cmpR (op_notInD (units_lt hr (by decide))) pe_non (pv 7) (by rfl)) (pss_cons (ps_set (i := 8) sc_least_trees.nd rfl (Or.inl rfl) (pe_tup (pa_cons (pe_op op_add pe_int (pe_callB (r := rSum K) (cr_sum rfl) (by rfl) T.sum (by decide +kernel) (pa_cons (pe_lc (own := [("bough", 10)]) rfl sc_least_trees.nd (pi_list (pv 7)) (blkOk_by (own := [("bough", 10)]) (N := N_least_trees) (sc := defScope s_least_trees) (by decide +kernel)) (fun _ _ _ _ _ => (pg_name (i := 10) sc_least_trees.nd rfl (Or.inl rfl))) (fun _ _ _ _ _ => pts_nil) (fun _ _ _ _ _ => (pe_ix (r := rIxT K) ix_tup (pv 10) pe_int (fun _ _ => rfl)))) pa_nil))) (pa_cons (pe_tup (pa_cons (pv 3) (pa_cons (pe_tupleOf (by rfl) T.tuple (pe_lc (own := [("bough", 10)]) rfl sc_least_trees.nd (pi_list (pv 7)) (blkOk_by (own := [("bough", 10)]) (N := N_least_trees) (sc := defScope s_least_trees) (by decide +kernel)) (fun _ _ _ _ _ => (pg_name (i := 10) sc_least_trees.nd rfl (Or.inl rfl))) (fun _ _ _ _ _ => pts_nil) (fun _ _ _ _ _ => (pe_ix (r := rIxT K) ix_tup (pv 10) pe_int (fun _ _ => rfl))))) pa_nil))) pa_nil))))
      (pss_one (ps_if (pt_cmpR (op_neD hr.units) (C8.pe_c c_lesser_tree hr (by omega) (by rfl) (pa_cons (pe_ix (r := rIxL K) ix_list (pv 1) (pv 4) (fun _ _ => rfl)) (pa_cons (pv 8) pa_nil))) (pe_ix (r := rIxL K) ix_list (pv 1) (pv 4) (fun _ _ => rfl)) (nomark _)) (pss_cons (ps_asg (pv 8) (pg_sub (pv 1) (pv 4) set_list))
      (pss_one (ps_set (i := 2) sc_least_trees.nd rfl (Or.inl rfl) pe_bl))) pss_nil))) pss_nil)))))))
      (pss_one (ps_ret (pv 1)))))), fun w Q ds d ⟨sg, rs, F, hok, hF, h1, h2⟩ rt => by
    subst h1 h2
    have bk := hok.bk
    have a4 := hok.s.l4
    have a8 := hok.r8
    refine sq_setNe (es := (init sg.length).map eD) ((ev_rep (ds := [.none]) (n := sg.length) (EvN.eve ((ev_lst (ea_conse ev_non ea_nil) fun ds h => by rw [h]; simp).imp fun ds h => h)) (ev_lenL (ev_ixT 0 (ds := [.list (sg.map pD), .list (rs.map rD)]) (ev_var rfl) ev_int rfl) (by simp)) (by simp; omega) (by omega)).imp fun ds h => by
      rw [h]; unfold init
      generalize sg.length = n
      induction n with
      | zero => rfl
      | succ n ih => rw [List.replicate_succ, List.replicate_succ, List.flatten_cons, ih]; rfl) fun a w1 r1 ha => ?_
    refine sq_sete ev_bl fun w2 r2 => ?_
    refine sq_while (S := KM.Fd × Bool) (r1.trans r2) (fun s => [.dat (bD sg rs), .ml a (s.1.map eD), .dat (.bool s.2), .no, .no, .no, .no, .no, .no, .no, .no]) (fun s => 2 * KM.mu s.1 + (if s.2 then 1 else 0)) (fun s => InvL rs s.1 ∧ s.1.length = sg.length ∧ ∃ n, KM.iterL rs (init sg.length) n = s.1 ∧ (s.2 = false → (roundL 0 rs (s.1, false)).2 = false)) (fun s => s.2) (init sg.length, true) (Le.refl _) ⟨KM.init_inv rs _, by simp [init], 0, rfl, fun h => by cases h⟩ ?_ ?_ ?_
    · intro s w' _ _ _
      exact et_B (ev_var rfl)
    · intro s w3 ⟨I, hl, n, hn, _⟩ hg r3 x3
      have h4 : s.1.length ≤ 4 := by omega
      have hsg : ∀ ru ∈ rs, ru.sign < s.1.length := fun ru hru => by rw [hl]; exact (hok.r ru hru).sg_lt
      refine ⟨roundL 0 rs (s.1, false), ⟨KM.round_inv bk.p2 I, ?_, n + 1, ?_, fun h => ?_⟩, ?_, ?_⟩
      · rw [KM.roundL_len]; exact hl
      · show (roundL 0 rs (KM.iterL rs (init sg.length) n, false)).1 = _
        rw [hn]
      · have := KM.roundL_flag rs 0 (s.1, false) h
        rw [this]
        rw [this] at h
        exact (congrArg (fun z => z.2) this)
      · rw [hg]
        cases hf : (roundL 0 rs (s.1, false)).2 with
        | true =>
          have := KM.round_mu a8 bk.p2 I h4 hsg hf
          simp
          omega
        | false =>
          have := KM.roundL_flag rs 0 (s.1, false) hf
          rw [this]
          simp
      · refine sq_sete ev_bl fun w4 r4 => ?_
        refine on_for (S := KM.Fd × Bool) (js := [3, 4, 5, 6]) rs.zipIdx (fun q => .tuple [.int (q.2 : Int), rD q.1]) (EvI.eq (ei_enum (ea_conse (ev_ixT 1 (ds := [.list (sg.map pD), .list (rs.map rD)]) (ev_var rfl) ev_int rfl) ea_nil)) (enum_map rD rs)) (r3.trans r4)
          (fun s => [.dat (bD sg rs), .ml a (s.1.map eD), .dat (.bool s.2), .no, .no, .no, .no, .no, .no, .no, .no]) (fun s q => stepL q.2 q.1 s) (fun i s => InvL rs s.1 ∧ s.1.length = sg.length) (s.1, false) (Le.refl _) ⟨I, hl⟩ ?_ ?_ ?_
        · intro i s q hq ⟨I, hl⟩
          have hqm : rs[q.2]? = some q.1 := List.mem_zipIdx_iff_getElem?.mp (List.mem_of_getElem? hq)
          exact ⟨KM.stepL_inv I hqm (bk.p2 q.1 (List.mem_of_getElem? hqm)), by rw [KM.stepL_len]; exact hl⟩
        · intro i s q w5 G0 hq ⟨I, hl⟩ _ r5 x5 x6
          have hqm : rs[q.2]? = some q.1 := List.mem_zipIdx_iff_getElem?.mp (List.mem_of_getElem? hq)
          have hru := hok.r q.1 (List.mem_of_getElem? hqm)
          have h4 : s.1.length ≤ 4 := by omega
          have hat : ∀ {k : Nat} {p : Nat × KM.T}, at' s.1 k = some p → p.2.hgt ≤ 31 := fun h => by have := inv_hgt I h4 h; omega
          refine ⟨_, tg_tup (tgs_cons tg_name (tgs_cons (tg_tup (tgs_cons tg_name (tgs_cons tg_name (tgs_cons tg_name tgs_nil)))) tgs_nil)), ?_⟩
          refine sq_sete (d := .list ((q.1.parts.map (at' s.1)).map eD)) (EvD.to (EvN.eve (ev_lc (js := [9]) q.1.parts iD (ei_tup (ev_var rfl)) (by have := hru.p2; omega) (by simp)
            (fun p => [.dat (bD sg rs), .ml a (s.1.map eD), .dat (.bool s.2), .dat (.int (q.2 : Int)), .dat (.int (q.1.sign : Int)), .dat (.tuple (q.1.parts.map iD)), .dat (.list q.1.fs), .no, .no, .dat (iD p), .no]) (fun p => eD (at' s.1 p)) (fun p _ => tg_name) fun p hp => ev_ixM (j := p) rfl (ev_var rfl) (getFd (by have := hru.pt p hp; omega)))) (by rw [List.map_map]; rfl)) fun w6 r6 => ?_
          have hnone : ∀ x ∈ q.1.parts.map (at' s.1), ∀ p, x = some p → p.2.hgt ≤ 31 := fun x hx p hxp => by
            obtain ⟨k, _, rfl⟩ := List.mem_map.mp hx
            exact hat hxp
          refine on_ife (b := !(allSome (q.1.parts.map (at' s.1))).isNone) (et_test (EvD.to (ev_ope ev_non (ev_var rfl) (rd_nin sh_none (sh_Es hnone))) (by rw [any_none]))) (fun w7 r7 hb => ?_) fun w7 r7 hb => ?_
          · cases hbs : allSome (q.1.parts.map (at' s.1)) with
            | none => rw [hbs] at hb; cases hb
            | some bs =>
              have eb := KM.allSome_some hbs
              have hbl : bs.length ≤ 2 := by
                have := congrArg List.length eb
                rw [List.length_map, List.length_map] at this
                have := hru.p2
                omega
              have eb2 : (q.1.parts.map (at' s.1)).map eD = bs.map fun b => eD (some b) := by rw [eb, List.map_map]; rfl
              refine sq_sete (d := eD (some (told q.2 bs))) (EvD.to (ev_tupe (ea_conse (ev_ope ev_int (ev_sumL (ns := bs.map fun b => (b.1 : Int)) (ea_conse (EvD.to (EvN.eve (ev_lc (js := [10]) bs (fun b => eD (some b)) (ei_list (EvD.to (ev_var rfl) (by rw [eb2]))) (by omega) (by simp)
                (fun b => [.dat (bD sg rs), .ml a (s.1.map eD), .dat (.bool s.2), .dat (.int (q.2 : Int)), .dat (.int (q.1.sign : Int)), .dat (.tuple (q.1.parts.map iD)), .dat (.list q.1.fs), .dat (.list ((q.1.parts.map (at' s.1)).map eD)), .no, .no, .dat (eD (some b))]) (fun b => .int (b.1 : Int)) (fun b _ => tg_name) fun b _ => ev_ixT 0 (ds := [.int (b.1 : Int), tD b.2]) (ev_var rfl) ev_int rfl)) (by rw [List.map_map]; rfl)) ea_nil)) rd_i) (ea_conse (ev_tupe (ea_conse (ev_var rfl) (ea_conse (ev_tupOfe (EvN.eve (ev_lc (js := [10]) bs (fun b => eD (some b)) (ei_list (EvD.to (ev_var rfl) (by rw [eb2]))) (by omega) (by simp)
                (fun b => [.dat (bD sg rs), .ml a (s.1.map eD), .dat (.bool s.2), .dat (.int (q.2 : Int)), .dat (.int (q.1.sign : Int)), .dat (.tuple (q.1.parts.map iD)), .dat (.list q.1.fs), .dat (.list ((q.1.parts.map (at' s.1)).map eD)), .no, .no, .dat (eD (some b))]) (fun b => tD b.2) (fun b _ => tg_name) fun b _ => ev_ixT 1 (ds := [.int (b.1 : Int), tD b.2]) (ev_var rfl) ev_int rfl))) ea_nil)) (by simp)) ea_nil)) (by simp)) ?_) fun w8 r8 => ?_
              · show _ = PyData.tuple [.int ((1 + (bs.map (·.1)).sum : Nat) : Int), tD (KM.T.mk q.2 (bs.map (·.2)))]
                rw [tD_mk _ _ (by rw [List.length_map]; exact hbl), List.map_map]
                congr 2
                congr 1
                rw [show (bs.map fun b => (b.1 : Int)) = (bs.map (·.1)).map fun (n : Nat) => (n : Int) by rw [List.map_map]; rfl, natsum_int]
                omega
              have hgood := (KM.told_good I hqm hru.p2 hbs).1
              have hsmall := (KM.told_good I hqm hru.p2 hbs).2
              have hth : (told q.2 bs).2.hgt ≤ 31 := by
                have c := KM.cnt_le s.1
                have d : 2 ^ (KM.cnt s.1 + 1) ≤ 2 ^ 5 := Nat.pow_le_pow_right (by omega) (by omega)
                have k := hgood.k
                have e := KM.hgt_knots (told q.2 bs).2
                omega
              have hsl : q.1.sign < s.1.length := by have := hru.sg_lt; omega
              have hstep : stepL q.2 q.1 s = if better (at' s.1 q.1.sign) (told q.2 bs) = true then (s.1.set q.1.sign (some (told q.2 bs)), true) else s := by
                unfold stepL
                rw [hbs]
              refine on_ife (b := better (at' s.1 q.1.sign) (told q.2 bs)) (et_test (EvD.to (ev_ope (ev_call (ea_conse (ev_ixM (j := q.1.sign) rfl (ev_var rfl) (getFd hsl)) (ea_conse (ev_var rfl) ea_nil)) ⟨at' s.1 q.1.sign, told q.2 bs, fun p hp => hat hp, hth, rfl, rfl⟩) (ev_ixM (j := q.1.sign) rfl (ev_var rfl) (getFd hsl)) (rd_ne (sh_E ?_) (sh_E fun p hp => hat hp))) (by rw [less_ne]))) (fun w9 r9 hb9 => ?_) fun w9 r9 hb9 => ?_
              · intro p hp
                split at hp
                · cases hp; exact hth
                · exact hat hp
              · rw [hb9, if_pos rfl] at hstep
                rw [hstep]
                have hr9 := ((r5.trans r6).trans r7).trans (r8.trans r9)
                refine sq_setI hr9 ha rfl ⟨trivial, trivial, trivial, trivial, trivial, trivial, trivial, trivial, trivial, trivial, trivial, trivial⟩ (ev_var rfl) (ev_var rfl) (by rw [List.length_map]; exact hsl) fun w10 r10 x10 => ?_
                refine on_sete ev_bl fun w11 r11 => ?_
                rw [← List.map_set]
                exact on_nx (r10.trans r11) (((((x6.trans r6.g).trans r7.g).trans (r8.g.trans r9.g)).trans x10).trans r11.g) (.same (.same (.same (.no (.no (.no (.no (.no (.no (.no (.no .nil)))))))))))
              · rw [hb9] at hstep
                rw [hstep]
                exact on_next (on_nx (((r5.trans r6).trans r7).trans (r8.trans r9)) (((x6.trans r6.g).trans r7.g).trans (r8.g.trans r9.g)) (.same (.same (.same (.no (.no (.no (.no (.no (.no (.no (.no .nil))))))))))))
          · have hbs : allSome (q.1.parts.map (at' s.1)) = none := by
              cases e : allSome (q.1.parts.map (at' s.1)) with
              | none => rfl
              | some bs => rw [e] at hb; cases hb
            have hstep : stepL q.2 q.1 s = s := by
              unfold stepL
              rw [hbs]
            rw [hstep]
            exact on_next (on_nx ((r5.trans r6).trans r7) ((x6.trans r6.g).trans r7.g) (.same (.same (.same (.no (.no (.no (.no (.no (.no (.no (.no .nil))))))))))))
        · intro w' _ r5 x5
          rw [zipIdx_round]
          exact on_nx r5 ((x3.trans r4.g).trans x5) (Le.refl _)
    · intro s w3 ⟨I, hl, n, hn, hg⟩ hb r3 x3
      have e : F = s.1 := KM.RunsL.uniq hF ⟨n, hn, hg hb⟩
      subst e
      exact on_retM r3 ha rfl rt⟩
end
end U
end

section
set_option maxRecDepth 100000
set_option maxHeartbeats 4000000
/-! The defs of the rules that are kept. -/
namespace U
open PySem PySem.Spec PyProof.Rows L2 HT2
open KM (at' allSome told better stepL roundL RunsL InvL init RunsC aliveR keepR madeF ixs comeP comeR comeA)
def lcScope_alive_rules : Scope := match (defBody s_alive_rules).getD 1 (.Pass ⟨0, 0, 0, 0⟩) with
  | .Return (some (.ListComp _ _ sc _)) _ => sc
  | _ => { kind := .function, names := [], isGenerator := false, isCoroutine := false }
theorem ixs_zip (p : Rl → Bool) : ∀ (rs : List Rl) (i : Nat), ((rs.zipIdx i).filter fun q => p q.1).map (·.2) = ixs p i rs
  | [], _ => rfl
  | r :: rs, i => by
    rw [List.zipIdx_cons, ixs]
    cases h : p r with
    | true => rw [List.filter_cons_of_pos (by simpa using h), List.map_cons, ixs_zip p rs (i + 1)]; rfl
    | false => rw [List.filter_cons_of_neg (by simpa using h), ixs_zip p rs (i + 1)]; rfl
theorem all_id : ∀ (ps : List Nat) (m : Nat → Bool), ((ps.map m).all id) = ps.all m
  | [], _ => rfl
  | p :: ps, m => by simp
/-- the rules alive, by their places -/
theorem ixs_rules (p : Rl → Bool) : ∀ (rs : List Rl) (i : Nat) (z : List Rl), (∀ j r, rs[j]? = some r → z[i + j]? = some r) → ((ixs p i rs).map fun j => z[j]?) = (rs.filter p).map some
  | [], _, _, _ => rfl
  | r :: rs, i, z, h => by
    have ih := ixs_rules p rs (i + 1) z fun j q hq => by
      have := h (j + 1) q (by simpa using hq)
      rw [show i + 1 + j = i + (j + 1) by omega]
      exact this
    have h0 := h 0 r (by simp)
    rw [Nat.add_zero] at h0
    rw [ixs]
    cases hp : p r with
    | true => rw [if_pos rfl, List.map_cons, ih, h0, List.filter_cons_of_pos hp]; rfl
    | false => rw [if_neg Bool.false_ne_true, ih, List.filter_cons_of_neg (by simp [hp])]
section
variable {P : Program} {wd : World} {K : PySem.W.Frag} {mg : Str → Option Value} {base : Heap} {dW : Addr}
/-! least_tree -/
def rel_least_tree : List PyData → PyData → Prop := fun ds d => ∃ (sg : List (Nat × Nat)) (rs : List Rl) (F : KM.Fd) (s : Nat), BOk sg rs ∧ RunsL rs (init sg.length) F ∧ s < sg.length ∧ ds = [bD sg rs, .int (s : Int)] ∧ d = tE (at' F s)
theorem runs_len {rs : List Rl} {L : Nat} {F : KM.Fd} (h : RunsL rs (init L) F) : F.length = L := KM.RunsL.len h |>.trans (by simp [init])
theorem c_least_tree (T : Txt P wd K mg dW) : C8.Cal P wd K mg base 13 "least_tree" (spD rel_least_tree) [] :=
  have c_look_at_sign := c_look_at_sign (P := P) (base := base) T
  have c_least_trees := c_least_trees (P := P) (base := base) T
  cal_D T.d_least_tree sc_least_tree (fun ds d ⟨_, _, _, _, _, _, _, h, _⟩ => by rw [h]; rfl) fun f cdv A outer s H E hr => ⟨_, (pss_cons (ps_expr (C8.pe_c c_look_at_sign hr (by omega) (by rfl) (pa_cons (pv 0) (pa_cons (pv 1) pa_nil))))
      (pss_cons (ps_set (i := 2) sc_least_tree.nd rfl (Or.inl rfl) (pe_ix (r := rIxL K) ix_list (C8.pe_c c_least_trees hr (by omega) (by rfl) (pa_cons (pv 0) pa_nil)) (pv 1) (fun _ _ => rfl)))
      (pss_cons (ps_if (pt_cmp (pc_isN (pv 2))) (pss_one (ps_ret pe_non)) pss_nil)
      (pss_one (ps_ret (pe_ix (r := rIxT K) ix_tup (pv 2) pe_int (fun _ _ => rfl))))))), fun w Q ds d ⟨sg, rs, F, sn, hok, hF, hs, h1, h2⟩ rt => by
    subst h1 h2
    refine sq_drop (D1 := fun e => e = .none) (ev_call (ea_conse (ev_var rfl) (ea_conse (ev_var rfl) ea_nil)) ⟨sg, rs, sn, hok, hs, rfl, rfl⟩) fun w1 r1 => ?_
    refine sq_sete (ev_ixL sn (ev_call (ea_conse (ev_var rfl) ea_nil) ⟨sg, rs, F, hok, hF, rfl, rfl⟩) (ev_var rfl) (getFd (by rw [runs_len hF]; exact hs))) fun w2 r2 => ?_
    cases e : at' F sn with
    | none =>
      rw [e] at rt
      refine sq_ifT (b := true) (et_B (EvD.to (ev_isN (d := eD none) (by rw [← e]; exact ev_var rfl)) rfl)) rfl fun w3 r3 => ?_
      exact on_ret ((r1.trans r2).trans r3) (D1 := fun e => e = .none) ev_non rt
    | some p =>
      rw [e] at rt
      refine sq_ifF (b := false) (et_B (EvD.to (ev_isN (d := eD (some p)) (by rw [← e]; exact ev_var rfl)) rfl)) rfl fun w3 r3 => ?_
      exact on_ret ((r1.trans r2).trans r3) (D1 := fun e => e = tD p.2) (ev_ixT 1 (ds := [.int (p.1 : Int), tD p.2]) (by rw [show PyData.tuple [.int (p.1 : Int), tD p.2] = eD (some p) from rfl, ← e]; exact ev_var rfl) ev_int rfl) rt⟩
/-! alive_rules -/
def rel_alive_rules : List PyData → PyData → Prop := fun ds d => ∃ (sg : List (Nat × Nat)) (rs : List Rl) (F : KM.Fd), BOk sg rs ∧ RunsL rs (init sg.length) F ∧ ds = [bD sg rs] ∧ d = .list ((ixs (aliveR (madeF F)) 0 rs).map iD)
theorem c_alive_rules (T : Txt P wd K mg dW) : C8.Cal P wd K mg base 3 "alive_rules" (spD rel_alive_rules) [] :=
  have c_least_trees := c_least_trees (P := P) (base := base) T
  cal_D T.d_alive_rules sc_alive_rules (fun ds d ⟨_, _, _, _, _, h, _⟩ => by rw [h]; rfl) fun f cdv A outer s H E hr => ⟨_, (pss_cons (ps_set (i := 1) sc_alive_rules.nd rfl (Or.inr rfl) (pe_lc (own := [("told", 2)]) rfl sc_alive_rules.nd (pi_list (C8.pe_c c_least_trees hr (by omega) (by rfl) (pa_cons (pv 0) pa_nil))) (blkOk_by (own := [("told", 2)]) (N := N_alive_rules) (sc := defScope s_alive_rules) (by decide +kernel)) (fun _ _ _ _ _ => (pg_name (i := 2) sc_alive_rules.nd rfl (Or.inl rfl))) (fun _ _ _ _ _ => pts_nil) (fun _ _ _ _ _ => (pe_cmp (pc_notN (pv 2))))))
      (pss_one (ps_ret (pe_lc (own := [("rule", 3), ("told", 2)]) (g := (gTup K 2 (gCons (gName 3) (gCons (gName 2) gNil)))) rfl sc_alive_rules.nd (pi_enum (by rfl) T.enumerate (pa_cons (pe_ix (r := rIxT K) ix_tup (pv 0) pe_int (fun _ _ => rfl)) pa_nil)) (blkOk_by (own := [("rule", 3), ("told", 2)]) (N := N_alive_rules) (sc := defScope s_alive_rules) (by decide +kernel)) (fun _ _ _ _ _ => (pg_tup rfl (pgs_cons (pg_name (i := 3) sc_alive_rules.nd rfl (Or.inl rfl)) (pgs_cons (pg_name (i := 2) sc_alive_rules.nd rfl (Or.inl rfl)) pgs_nil)))) (fun _ _ _ _ _ => (pts_one (pt_val (pe_callB (r := rAll K) (cr_all rfl) (by rfl) T.all (by decide +kernel) (pa_cons (pe_lc (own := [("part", 4)]) (wi := iTup K (tOp (rIxT K) (tVar 2) (tC (.int 1)))) rfl sc_alive_rules.nd (pi_tup (pe_ix (r := rIxT K) ix_tup (pv 2) pe_int (fun _ _ => rfl))) (blkOk_by (own := [("part", 4)]) (N := N_alive_rules) (sc := relS (lcScope_alive_rules) (defScope s_alive_rules)) (by decide +kernel)) (fun _ _ _ _ _ => (pg_name (i := 4) sc_alive_rules.nd rfl (Or.inl rfl))) (fun _ _ _ _ _ => pts_nil) (fun _ _ _ _ _ => (pe_ix (r := rIxL K) ix_list (pv 1) (pv 4) (fun _ _ => rfl)))) pa_nil))))) (fun _ _ _ _ _ => (pv 3)))))), fun w Q ds d ⟨sg, rs, F, hok, hF, h1, h2⟩ rt => by
    subst h1 h2
    have a4 := hok.s.l4
    have a8 := hok.r8
    have hFl := runs_len hF
    refine sq_sete (d := .list (F.map fun o => .bool o.isSome)) (EvN.eve (ev_lc (js := [2]) F eD (ei_list (ev_call (ea_conse (ev_var rfl) ea_nil) ⟨sg, rs, F, hok, hF, rfl, rfl⟩)) (by omega) (by simp) (fun o => [.dat (bD sg rs), .no, .dat (eD o), .no, .no]) (fun o => .bool o.isSome) (fun o _ => tg_name) fun o _ => EvD.to (ev_notN (ev_var rfl)) (by rw [isN_E]; cases o <;> rfl))) fun w1 r1 => ?_
    refine on_ret r1 (D1 := fun e => e = .list ((ixs (aliveR (madeF F)) 0 rs).map iD)) ?_ rt
    refine EvD.to (EvN.eve (ev_lcT (js := [3, 2]) rs.zipIdx (fun q => .tuple [.int (q.2 : Int), rD q.1]) (EvI.eq (ei_enum (ea_conse (ev_ixT 1 (ds := [.list (sg.map pD), .list (rs.map rD)]) (ev_var rfl) ev_int rfl) ea_nil)) (enum_map rD rs)) (by rw [List.length_zipIdx]; omega) (by simp)
      (fun q => [.dat (bD sg rs), .dat (.list (F.map fun o => .bool o.isSome)), .dat (rD q.1), .dat (.int (q.2 : Int)), .no]) (fun q => aliveR (madeF F) q.1) (fun q => iD q.2) (fun q _ => tg_tup (tgs_cons tg_name (tgs_cons tg_name tgs_nil))) (fun q hq => ?_) fun q _ _ => ev_var rfl)) ?_
    · have hqm : rs[q.2]? = some q.1 := List.mem_zipIdx_iff_getElem?.mp hq
      have hru := hok.r q.1 (List.mem_of_getElem? hqm)
      refine et_B (EvD.to (ev_all (bs := q.1.parts.map (madeF F)) (ea_conse (EvD.to (EvN.eve (ev_lc (js := [4]) q.1.parts iD (ei_tup (ev_ixT 1 (ds := [.int (q.1.sign : Int), .tuple (q.1.parts.map iD), .list q.1.fs]) (ev_var rfl) ev_int rfl)) (by have := hru.p2; omega) (by simp)
        (fun p => [.dat (bD sg rs), .dat (.list (F.map fun o => .bool o.isSome)), .dat (rD q.1), .dat (.int (q.2 : Int)), .dat (iD p)]) (fun p => .bool (madeF F p)) (fun p _ => tg_name) fun p hp => ev_ixL p (ev_var rfl) (ev_var rfl) ?_)) (by rw [List.map_map]; rfl)) ea_nil)) (by rw [all_id]; rfl))
      have hlt : p < F.length := by have := hru.pt p hp; omega
      unfold madeF at'
      rw [List.getElem?_map, List.getElem?_eq_getElem hlt, List.getD_eq_getElem?_getD, List.getElem?_eq_getElem hlt]
      rfl
    · rw [← ixs_zip, List.map_map]
      rfl⟩
/-! useful_rules -/
def rel_useful_rules : List PyData → PyData → Prop := fun ds d => ∃ (sg : List (Nat × Nat)) (rs : List Rl) (F : KM.Fd) (come : List Nat), BOk sg rs ∧ RunsL rs (init sg.length) F ∧ RunsC (rs.filter (aliveR (madeF F))) [0] come ∧ ds = [bD sg rs] ∧ d = .list ((ixs (keepR (madeF F) come) 0 rs).map iD)
theorem c_useful_rules (T : Txt P wd K mg dW) : C8.Cal P wd K mg base 12 "useful_rules" (spD rel_useful_rules) [] :=
  have c_look_at_book := c_look_at_book (P := P) (base := base) T
  have c_alive_rules := c_alive_rules (P := P) (base := base) T
  cal_D T.d_useful_rules sc_useful_rules (fun ds d ⟨_, _, _, _, _, _, _, h, _⟩ => by rw [h]; rfl) fun f cdv A outer s H E hr => ⟨_, (pss_cons (ps_expr (C8.pe_c c_look_at_book hr (by omega) (by rfl) (pa_cons (pv 0) pa_nil)))
      (pss_cons (ps_set (i := 1) sc_useful_rules.nd rfl (Or.inl rfl) (C8.pe_c c_alive_rules hr (by omega) (by rfl) (pa_cons (pv 0) pa_nil)))
      (pss_cons (ps_set (i := 2) sc_useful_rules.nd rfl (Or.inr rfl) (pe_disp (pps_cons pe_int pe_bl pps_nil) (by rfl) (by rfl) (fun z => by cases z) (by decide)))
      (pss_cons (ps_set (i := 3) sc_useful_rules.nd rfl (Or.inl rfl) pe_bl)
      (pss_cons (ps_while PassesOwn.never (pt_val (pv 3)) (pss_cons (ps_set (i := 3) sc_useful_rules.nd rfl (Or.inl rfl) pe_bl)
      (pss_one (ps_for PassesOwn.never rfl (pi_list (pv 1)) (pg_name (i := 4) sc_useful_rules.nd rfl (Or.inl rfl)) (pss_cons (ps_asg (pe_ix (r := rIxL K) ix_list (pe_ix (r := rIxT K) ix_tup (pv 0) pe_int (fun _ _ => rfl)) (pv 4) (fun _ _ => rfl)) (pg_tup rfl (pgs_cons (pg_name (i := 5) sc_useful_rules.nd rfl (Or.inl rfl)) (pgs_cons (pg_name (i := 6) sc_useful_rules.nd rfl (Or.inl rfl)) (pgs_cons (pg_name (i := 7) sc_useful_rules.nd rfl (Or.inl rfl)) pgs_nil)))))
      (pss_one (ps_for PassesOwn.never rfl (pi_tup (pv 6)) (pg_name (i := 8) sc_useful_rules.nd rfl (Or.inl rfl)) (pss_one (ps_if (PW.pt (pw_and (pt_cmp (pc_din (hu_of hr) (pv 5) (pv 2)) rfl) (pw_and1 (pt_cmp (pc_dnotin (hu_of hr) (pv 8) (pv 2)) rfl)))) (pss_cons (ps_dput (hu_of hr) (pv 2) (pv 8) pe_bl rfl)
      (pss_one (ps_set (i := 3) sc_useful_rules.nd rfl (Or.inl rfl) pe_bl))) pss_nil)))))))))
      (pss_one (ps_ret (pe_lc (own := [("rule", 4)]) rfl sc_useful_rules.nd (pi_list (pv 1)) (blkOk_by (own := [("rule", 4)]) (N := N_useful_rules) (sc := defScope s_useful_rules) (by decide +kernel)) (fun _ _ _ _ _ => (pg_name (i := 4) sc_useful_rules.nd rfl (Or.inl rfl))) (fun _ _ _ _ _ => (pts_one (pt_cmp (pc_din (hu_of hr) (pe_ix (r := rIxT K) ix_tup (pe_ix (r := rIxL K) ix_list (pe_ix (r := rIxT K) ix_tup (pv 0) pe_int (fun _ _ => rfl)) (pv 4) (fun _ _ => rfl)) pe_int (fun _ _ => rfl)) (pv 2)) rfl))) (fun _ _ _ _ _ => (pv 4)))))))))), fun w Q ds d ⟨sg, rs, F, come, hok, hF, hC, h1, h2⟩ rt => by
    subst h1 h2
    have a4 := hok.s.l4
    have a8 := hok.r8
    have bk := hok.bk
    let al := ixs (aliveR (madeF F)) 0 rs
    let as := rs.filter (aliveR (madeF F))
    have hal : al.map (fun j => rs[j]?) = as.map some := ixs_rules _ rs 0 rs fun j r h => by rw [Nat.zero_add]; exact h
    have hll : al.length = as.length := KM.ixs_len _ _ _
    have hal8 : al.length ≤ 8 := by rw [hll]; exact Nat.le_trans (List.length_filter_le _ _) a8
    have hpt : ∀ ru ∈ as, ∀ p ∈ ru.parts, p < sg.length := fun ru h => bk.pt ru (List.mem_filter.mp h).1
    have hz : ∀ q ∈ al.zip as, rs[q.1]? = some q.2 ∧ q.2 ∈ as := by
      intro q hq
      refine ⟨?_, (List.of_mem_zip hq).2⟩
      obtain ⟨i, hi⟩ := List.mem_iff_getElem?.mp hq
      obtain ⟨h1, h2⟩ := List.getElem?_zip_eq_some.mp hi
      have := congrArg (fun l => l[i]?) hal
      simp only [List.getElem?_map, h1, h2] at this
      exact Option.some.inj this
    have iv0 : KM.InvC sg.length [0] := ⟨by simp, fun k hk => by have := hok.s.l1; have e : k = 0 := (by simpa using hk); omega⟩
    refine sq_drop (D1 := fun e => e = .none) (ev_call (ea_conse (ev_var rfl) ea_nil) ⟨sg, rs, hok, rfl, rfl⟩) fun w1 r1 => ?_
    refine sq_sete (ev_call (ea_conse (ev_var rfl) ea_nil) ⟨sg, rs, F, hok, hF, rfl, rfl⟩) fun w2 r2 => ?_
    have r02 := r1.trans r2
    refine sq_disp fun a w3 r3 ha3 => ?_
    have ha : w.H a = none := r02.free ha3
    refine sq_sete ev_bl fun w4 r4 => ?_
    refine sq_while (S := List Nat × Bool) ((r02.trans r3).trans r4) (fun s => [.dat (bD sg rs), .dat (.list (al.map iD)), .md a s.1, .dat (.bool s.2), .no, .no, .no, .no, .no]) (fun s => 2 * (sg.length - s.1.length) + (if s.2 then 1 else 0)) (fun s => KM.InvC sg.length s.1 ∧ ∃ n, KM.iterC as [0] n = s.1 ∧ (s.2 = false → (comeA as (s.1, false)).2 = false)) (fun s => s.2) ([0], true) (Le.refl _) ⟨iv0, 0, rfl, fun h => by cases h⟩ ?_ ?_ ?_
    · intro s w' _ _ _
      exact et_B (ev_var rfl)
    · intro s w5 ⟨I, n, hn, _⟩ hg r5 x5
      refine ⟨comeA as (s.1, false), ⟨KM.comeA_inv as (s.1, false) hpt I, n + 1, ?_, fun h => ?_⟩, ?_, ?_⟩
      · show (comeA as (KM.iterC as [0] n, false)).1 = _
        rw [hn]
      · have := (KM.comeA_flag as (s.1, false) h).1
        rw [this]
        rw [this] at h
        exact (congrArg (fun z => z.2) this)
      · have hlen := KM.comeA_len as (s.1, false)
        have hI2 := (KM.comeA_inv as (s.1, false) hpt I).len
        rw [hg]
        cases hf : (comeA as (s.1, false)).2 with
        | true =>
          have h := hlen.2 hf
          have h : (s.1, false).1.length < (comeA as (s.1, false)).1.length := by
            rcases h with h | h
            · cases h
            · exact h
          have h : s.1.length < (comeA as (s.1, false)).1.length := h
          simp
          omega
        | false =>
          have := (KM.comeA_flag as (s.1, false) hf).1
          rw [this]
          simp
      · refine sq_sete ev_bl fun w6 r6 => ?_
        have efold : (al.zip as).foldl (fun s q => comeR s q.2) (s.1, false) = comeA as (s.1, false) := by
          unfold comeA
          have : as = (al.zip as).map (·.2) := by rw [List.map_snd_zip]; omega
          conv => rhs; rw [this, List.foldl_map]
        refine on_for (S := List Nat × Bool) (js := [4]) (al.zip as) (fun q => iD q.1) (EvI.eq (ei_list (ds := al.map iD) (ev_var rfl)) (by rw [show (al.zip as).map (fun q => iD q.1) = ((al.zip as).map (·.1)).map iD by rw [List.map_map]; rfl, List.map_fst_zip]; omega)) (r5.trans r6)
          (fun s => [.dat (bD sg rs), .dat (.list (al.map iD)), .md a s.1, .dat (.bool s.2), .no, .no, .no, .no, .no]) (fun s q => comeR s q.2) (fun i s => KM.InvC sg.length s.1) (s.1, false) (Le.refl _) I ?_ ?_ ?_
        · intro i s q hq I
          exact KM.comeF_inv q.2.parts s (hpt q.2 (hz q (List.mem_of_getElem? hq)).2) I
        · intro i s q w7 G0 hq I _ r7 x7 x8
          obtain ⟨hq1, hq2⟩ := hz q (List.mem_of_getElem? hq)
          have hru := hok.r q.2 (List.mem_of_getElem? hq1)
          refine ⟨_, tg_name, ?_⟩
          refine sq_asg (ev_ixL q.1 (ev_ixT 1 (ds := [.list (sg.map pD), .list (rs.map rD)]) (ev_var rfl) ev_int rfl) (ev_var rfl) (getMap hq1)) (tg_tup (tgs_cons tg_name (tgs_cons tg_name (tgs_cons tg_name tgs_nil)))) fun w8 r8 => ?_
          refine on_for (S := List Nat × Bool) (js := [8]) q.2.parts iD (ei_tup (ev_var rfl)) (r7.trans r8)
            (fun s => [.dat (bD sg rs), .dat (.list (al.map iD)), .md a s.1, .dat (.bool s.2), .no, .dat (.int (q.2.sign : Int)), .no, .no, .no]) (fun s p => comeP q.2.sign s p) (fun i s => KM.InvC sg.length s.1) s (.same (.same (.same (.same (.no (.same (.no (.no (.no .nil))))))))) I ?_ ?_ ?_
          · intro i s p hp I
            exact KM.comeP_inv I (hru.pt p (List.mem_of_getElem? hp))
          · intro i s p w9 G1 hp I _ r9 x9 x10
            refine ⟨_, tg_name, ?_⟩
            have hl := I.len
            have hst : comeP q.2.sign s p = if (decide (q.2.sign ∈ s.1) && !decide (p ∈ s.1)) = true then (s.1 ++ [p], true) else s := by
              unfold comeP
              by_cases h1 : q.2.sign ∈ s.1 <;> by_cases h2 : p ∈ s.1 <;> simp [h1, h2]
            refine on_ife (b := decide (q.2.sign ∈ s.1) && !decide (p ∈ s.1)) (et_and (et_B (ev_dIn rfl (ev_var rfl))) fun _ => et_B (ev_dNin rfl (ev_var rfl))) (fun w10 r10 hb => ?_) fun w10 r10 hb => ?_
            · rw [hb, if_pos rfl] at hst
              rw [hst]
              have hnp : p ∉ s.1 := by
                intro h
                rw [decide_eq_true h] at hb
                simp at hb
              refine sq_dput (r9.trans r10) ha rfl ⟨trivial, trivial, trivial, trivial, trivial, trivial, trivial, trivial, trivial, trivial⟩ (ev_var rfl) hnp (by omega) fun w11 r11 x11 => ?_
              refine on_sete ev_bl fun w12 r12 => ?_
              exact on_nx (r11.trans r12) (((x10.trans r10.g).trans x11).trans r12.g) (.same (.same (.same (.same (.no (.same (.no (.no (.no .nil)))))))))
            · rw [hb] at hst
              rw [hst]
              exact on_next (on_nx (r9.trans r10) (x10.trans r10.g) (.same (.same (.same (.same (.no (.same (.no (.no (.no .nil))))))))))
          · intro w' _ r9 x9
            exact on_nx r9 ((x8.trans r8.g).trans x9) (.same (.same (.same (.same (.no (.no (.no (.no (.no .nil)))))))))
        · intro w' _ r7 x7
          rw [efold]
          exact on_nx r7 ((x5.trans r6.g).trans x7) (Le.refl _)
    · intro s w5 ⟨I, n, hn, hg⟩ hb r5 x5
      have e : come = s.1 := KM.RunsC.uniq hC ⟨n, hn, hg hb⟩
      subst e
      refine on_ret r5 (D1 := fun e => e = .list ((ixs (keepR (madeF F) s.1) 0 rs).map iD)) ?_ rt
      refine EvD.to (EvN.eve (ev_lcT (js := [4]) (al.zip as) (fun q => iD q.1) (EvI.eq (ei_list (ds := al.map iD) (ev_var rfl)) (by rw [show (al.zip as).map (fun q => iD q.1) = ((al.zip as).map (·.1)).map iD by rw [List.map_map]; rfl, List.map_fst_zip]; omega)) (by rw [List.length_zip]; omega) (by simp)
        (fun q => [.dat (bD sg rs), .dat (.list (al.map iD)), .md a s.1, .dat (.bool s.2), .dat (iD q.1), .no, .no, .no, .no]) (fun q => decide (q.2.sign ∈ s.1)) (fun q => iD q.1) (fun q _ => tg_name) (fun q hq => ?_) fun q _ _ => ev_var rfl)) ?_
      · exact et_B (ev_dIn rfl (ev_ixT 0 (ds := [.int (q.2.sign : Int), .tuple (q.2.parts.map iD), .list q.2.fs]) (ev_ixL q.1 (ev_ixT 1 (ds := [.list (sg.map pD), .list (rs.map rD)]) (ev_var rfl) ev_int rfl) (ev_var rfl) (getMap (hz q hq).1)) ev_int rfl))
      · rw [← KM.ixs_keep (fun j => match rs[j]? with | some ru => ru.sign | none => 0) rs 0 fun j ru h => by rw [Nat.zero_add, h]]
        have e1 : al = (al.zip as).map (·.1) := by rw [List.map_fst_zip]; omega
        show _ = PyData.list ((al.filter _).map iD)
        conv => rhs; rw [e1, List.filter_map, List.map_map]
        refine congrArg PyData.list (congrArg (List.map fun q : Nat × Rl => iD q.1) (List.filter_congr fun q hq => ?_))
        show decide (q.2.sign ∈ s.1) = decide ((match rs[q.1]? with | some ru => ru.sign | none => 0) ∈ s.1)
        rw [(hz q hq).1]⟩
/-! cut_book -/
def rel_cut_book : List PyData → PyData → Prop := fun ds d => ∃ (sg : List (Nat × Nat)) (rs : List Rl) (F : KM.Fd) (come : List Nat), BOk sg rs ∧ RunsL rs (init sg.length) F ∧ RunsC (rs.filter (aliveR (madeF F))) [0] come ∧ ds = [bD sg rs] ∧ d = bD sg (rs.filter (keepR (madeF F) come))
theorem c_cut_book (T : Txt P wd K mg dW) : C8.Cal P wd K mg base 13 "cut_book" (spD rel_cut_book) [] :=
  have c_useful_rules := c_useful_rules (P := P) (base := base) T
  cal_D T.d_cut_book sc_cut_book (fun ds d ⟨_, _, _, _, _, _, _, h, _⟩ => by rw [h]; rfl) fun f cdv A outer s H E hr => ⟨_, (pss_cons (ps_set (i := 1) sc_cut_book.nd rfl (Or.inl rfl) (C8.pe_c c_useful_rules hr (by omega) (by rfl) (pa_cons (pv 0) pa_nil)))
      (pss_one (ps_ret (pe_tup (pa_cons (pe_callTy (r := rListOf K) call_list_of (by rfl) T.list (by decide +kernel) (pa_cons (pe_ix (r := rIxT K) ix_tup (pv 0) pe_int (fun _ _ => rfl)) pa_nil)) (pa_cons (pe_lc (own := [("rule", 2)]) rfl sc_cut_book.nd (pi_list (pv 1)) (blkOk_by (own := [("rule", 2)]) (N := N_cut_book) (sc := defScope s_cut_book) (by decide +kernel)) (fun _ _ _ _ _ => (pg_name (i := 2) sc_cut_book.nd rfl (Or.inl rfl))) (fun _ _ _ _ _ => pts_nil) (fun _ _ _ _ _ => (pe_tup (pa_cons (pe_ix (r := rIxT K) ix_tup (pe_ix (r := rIxL K) ix_list (pe_ix (r := rIxT K) ix_tup (pv 0) pe_int (fun _ _ => rfl)) (pv 2) (fun _ _ => rfl)) pe_int (fun _ _ => rfl)) (pa_cons (pe_ix (r := rIxT K) ix_tup (pe_ix (r := rIxL K) ix_list (pe_ix (r := rIxT K) ix_tup (pv 0) pe_int (fun _ _ => rfl)) (pv 2) (fun _ _ => rfl)) pe_int (fun _ _ => rfl)) (pa_cons (pe_callTy (r := rListOf K) call_list_of (by rfl) T.list (by decide +kernel) (pa_cons (pe_ix (r := rIxT K) ix_tup (pe_ix (r := rIxL K) ix_list (pe_ix (r := rIxT K) ix_tup (pv 0) pe_int (fun _ _ => rfl)) (pv 2) (fun _ _ => rfl)) pe_int (fun _ _ => rfl)) pa_nil)) pa_nil)))))) pa_nil)))))), fun w Q ds d ⟨sg, rs, F, come, hok, hF, hC, h1, h2⟩ rt => by
    subst h1 h2
    have a8 := hok.r8
    let al := ixs (keepR (madeF F) come) 0 rs
    let as := rs.filter (keepR (madeF F) come)
    have hal : al.map (fun j => rs[j]?) = as.map some := ixs_rules _ rs 0 rs fun j r h => by rw [Nat.zero_add]; exact h
    have hll : al.length = as.length := KM.ixs_len _ _ _
    have hal8 : al.length ≤ 8 := by rw [hll]; exact Nat.le_trans (List.length_filter_le _ _) a8
    have hz : ∀ q ∈ al.zip as, rs[q.1]? = some q.2 := by
      intro q hq
      obtain ⟨i, hi⟩ := List.mem_iff_getElem?.mp hq
      obtain ⟨h1, h2⟩ := List.getElem?_zip_eq_some.mp hi
      have := congrArg (fun l => l[i]?) hal
      simp only [List.getElem?_map, h1, h2] at this
      exact Option.some.inj this
    refine sq_sete (ev_call (ea_conse (ev_var rfl) ea_nil) ⟨sg, rs, F, come, hok, hF, hC, rfl, rfl⟩) fun w1 r1 => ?_
    refine on_ret r1 (D1 := fun e => e = bD sg as) ?_ rt
    have rl : ∀ {Γ : List De} {w1 : Wo} {q : Nat × Rl} {j : Nat} {e : PyData}, Γ[0]? = some (.dat (bD sg rs)) → Γ[2]? = some (.dat (iD q.1)) → q ∈ al.zip as → [PyData.int (q.2.sign : Int), .tuple (q.2.parts.map iD), .list q.2.fs][j]? = some e → EvE none (tOp (rIxT K) (tOp (rIxL K) (tOp (rIxT K) (tVar 0) (tC (.int 1))) (tVar 2)) (tC (.int (j : Int)))) Γ w1 e := fun {Γ w1 q j e} h1 h2 hq h3 =>
      ev_ixT _ (ds := [.int (q.2.sign : Int), .tuple (q.2.parts.map iD), .list q.2.fs]) (ev_ixL q.1 (ev_ixT 1 (ds := [.list (sg.map pD), .list (rs.map rD)]) (ev_var h1) ev_int rfl) (ev_var h2) (getMap (hz q hq))) ev_int h3
    refine ev_tupe (ea_conse (EvN.eve (ev_listOf (ea_conse (ev_ixT 0 (ds := [.list (sg.map pD), .list (rs.map rD)]) (ev_var rfl) ev_int rfl) ea_nil))) (ea_conse (EvD.to (EvN.eve (ev_lc (js := [2]) (al.zip as) (fun q => iD q.1) (EvI.eq (ei_list (ds := al.map iD) (ev_var rfl)) (by rw [show (al.zip as).map (fun q => iD q.1) = ((al.zip as).map (·.1)).map iD by rw [List.map_map]; rfl, List.map_fst_zip]; omega)) (by rw [List.length_zip]; omega) (by simp)
      (fun q => [.dat (bD sg rs), .dat (.list (al.map iD)), .dat (iD q.1)]) (fun q => rD q.2) (fun q _ => tg_name) fun q hq => ?_)) ?_) ea_nil)) (by simp)
    · exact ev_tupe (ea_conse (rl (j := 0) rfl rfl hq rfl) (ea_conse (rl (j := 1) rfl rfl hq rfl) (ea_conse (EvN.eve (ev_listOf (ea_conse (rl (j := 2) rfl rfl hq rfl) ea_nil))) ea_nil))) (by simp)
    · have e1 : as = (al.zip as).map (·.2) := by rw [List.map_snd_zip]; omega
      exact congrArg PyData.list (by have := congrArg (List.map rD) e1; rw [List.map_map] at this; exact this.symm)⟩
end
end U
end

section
set_option maxRecDepth 100000
set_option maxHeartbeats 4000000
/-! The defs that count and list trees. -/
namespace U
open PySem PySem.Spec PyProof.Rows L2 HT2
open KM (cell countsN)
theorem choices_step (row : List KM.T) : ∀ (found : List (List KM.T)) (l : List (List KM.T)), found.foldl (fun l x => l ++ row.map fun one => x ++ [one]) l = l ++ found.flatMap fun x => row.map fun one => x ++ [one] := foldl_app _
section
variable {P : Program} {wd : World} {K : PySem.W.Frag} {mg : Str → Option Value} {base : Heap} {dW : Addr}
/-! choices_of -/
def rel_choices_of : List PyData → PyData → Prop := fun ds d => ∃ rows : List (List KM.T), rows.length ≤ 2 ∧ (∀ row ∈ rows, row.length ≤ 300) ∧ ds = [.list (rows.map trD)] ∧ d = .list ((KM.choices rows).map lD)
theorem c_choices_of (T : Txt P wd K mg dW) : C8.Cal P wd K mg base 1 "choices_of" (spD rel_choices_of) [] :=
  cal_D T.d_choices_of sc_choices_of (fun ds d ⟨_, _, _, h, _⟩ => by rw [h]; rfl) fun f cdv A outer s H E hr => ⟨_, (pss_cons (ps_set (i := 1) sc_choices_of.nd rfl (Or.inl rfl) (pe_lst (pa_cons (pe_tup pa_nil) pa_nil)))
      (pss_cons (ps_for PassesOwn.never rfl (pi_list (pv 0)) (pg_name (i := 2) sc_choices_of.nd rfl (Or.inl rfl)) (pss_cons (ps_set (i := 3) sc_choices_of.nd rfl (Or.inl rfl) (pe_lst pa_nil))
      (pss_cons (ps_for PassesOwn.never rfl (pi_list (pv 1)) (pg_name (i := 4) sc_choices_of.nd rfl (Or.inr rfl)) (pss_one (ps_expr (pe_bm PySem.F.plainAttrs_list PySem.F.slot_list_extend PySem.F.type_list_extend mt_extend (pv 3) (pa_cons (pe_lc (own := [("one", 5)]) rfl sc_choices_of.nd (pi_list (pv 2)) (blkOk_by (own := [("one", 5)]) (N := N_choices_of) (sc := defScope s_choices_of) (by decide +kernel)) (fun _ _ _ _ _ => (pg_name (i := 5) sc_choices_of.nd rfl (Or.inl rfl))) (fun _ _ _ _ _ => pts_nil) (fun _ _ _ _ _ => (pe_op (r := rCatA K) op_catA (pv 4) (pe_tup (pa_cons (pv 5) pa_nil))))) pa_nil)))))
      (pss_one (ps_set (i := 1) sc_choices_of.nd rfl (Or.inl rfl) (pv 3))))))
      (pss_one (ps_ret (pv 1))))), fun w Q ds d ⟨rows, h2, h3, h1, h4⟩ rt => by
    subst h1 h4
    refine sq_sete (d := .list (([[]] : List (List KM.T)).map lD)) (EvN.eve ((ev_lst (ea_conse (ev_tupe ea_nil (by simp)) ea_nil) fun ds h => by rw [h]; simp).imp fun ds h => h)) fun w1 r1 => ?_
    refine sq_for (S := List (List KM.T)) (js := [2]) rows trD (ei_list (ev_var rfl)) r1 (fun found => [.dat (.list (rows.map trD)), .dat (.list (found.map lD)), .no, .no, .no, .no]) (fun found row => found.flatMap fun x => row.map fun one => x ++ [one]) (fun i found => found.length ≤ 300 ^ i ∧ ∀ l ∈ found, l.length ≤ i) [[]] (.same (.same (.no (.no (.no (.no .nil)))))) ⟨by simp, by simp⟩ ?_ ?_ ?_
    · intro i found row hrow ⟨a, b⟩
      have hr := h3 row (List.mem_of_getElem? hrow)
      refine ⟨?_, fun l hl => ?_⟩
      · have := KM.flatMap_len (fun x => row.map fun one => x ++ [one]) 300 found fun x _ => by rw [List.length_map]; exact hr
        rw [Nat.pow_succ]
        exact Nat.le_trans this (Nat.mul_le_mul_right _ a)
      · obtain ⟨x, hx, hl⟩ := List.mem_flatMap.mp hl
        obtain ⟨o, _, rfl⟩ := List.mem_map.mp hl
        have := b x hx
        simp; omega
    · intro i found row w2 G0 hrow ⟨a, b⟩ _ r2 x2 x3
      have hr := h3 row (List.mem_of_getElem? hrow)
      have hi : i < 2 := by have := (List.getElem?_eq_some_iff.mp hrow).1; omega
      have hf : found.length ≤ 300 := by
        rcases (by omega : i = 0 ∨ i = 1) with e | e <;> subst e <;> simp at a <;> omega
      refine ⟨_, tg_name, ?_⟩
      refine sq_setNe ev_nilN fun p w3 r3 hp => ?_
      have hp0 := r2.free hp
      refine sq_for (S := List (List KM.T)) (js := [4]) found lD (ei_list (ev_var rfl)) (r2.trans r3) (fun l => [.dat (.list (rows.map trD)), .dat (.list (found.map lD)), .dat (trD row), .ml p (l.map lD), .no, .no]) (fun l x => l ++ row.map fun one => x ++ [one]) (fun j l => l.length ≤ j * 300) [] (.same (.same (.same (.same (.no (.no .nil)))))) (by simp) ?_ ?_ ?_
      · intro j l x hx hl
        rw [List.length_append, List.length_map, Nat.succ_mul]
        omega
      · intro j l x w4 G1 hx hl _ r4 x4 x5
        have hj : j < 300 := by have := (List.getElem?_eq_some_iff.mp hx).1; omega
        have hxl := b x (List.mem_of_getElem? hx)
        refine ⟨_, tg_name, ?_⟩
        refine on_extq (es := (row.map fun one => x ++ [one]).map lD) r4 hp0 rfl ⟨trivial, trivial, trivial, trivial, trivial, trivial, trivial⟩ ((ev_lc (js := [5]) row tD (ei_list (ev_var rfl)) (by omega) (by simp)
          (fun one => [.dat (.list (rows.map trD)), .dat (.list (found.map lD)), .dat (trD row), .ml p (l.map lD), .dat (lD x), .dat (tD one)]) (fun one => lD (x ++ [one])) (fun one _ => tg_name) fun one _ => EvD.to (ev_ope (d := lD x) (e := .tuple [tD one]) (ev_var rfl) (ev_tupe (ea_conse (ev_var rfl) ea_nil) (by simp)) (rd_catT (by rw [List.length_map]; simp; omega))) (by unfold lD; rw [List.map_append]; rfl)).imp fun ds h => by rw [h, List.map_map]; rfl) ?_ fun w5 r5 x6 => ?_
        · rw [List.length_map, List.length_map, List.length_map]
          have : j * 300 ≤ 300 * 300 := Nat.mul_le_mul_right _ (by omega)
          omega
        · rw [← List.map_append]
          exact on_nx r5 (x5.trans x6) (.same (.same (.same (.same (.no (.no .nil))))))
      · intro w4 _ r4 x4
        rw [choices_step, List.nil_append]
        refine on_fix (j := 3) r4 hp0 rfl ⟨trivial, trivial, trivial, trivial, trivial, trivial, trivial⟩ fun w5 r5 x5 => ?_
        refine on_sete (ev_var rfl) fun w6 r6 => ?_
        exact on_nx (r5.trans r6) ((((x3.trans r3.g).trans x4).trans x5).trans r6.g) (.same (.same (.no (.no (.no (.no .nil))))))
    · intro w2 _ r2 x2
      exact on_ret r2 (D1 := fun e => e = .list ((KM.choices rows).map lD)) (ev_var rfl) rt⟩
/-! parted -/
def rel_parted (n : Nat) : List PyData → PyData → Prop := fun ds d => ∃ total many : Nat, many < n ∧ many ≤ 2 ∧ total ≤ 8 ∧ ds = [.int (total : Int), .int (many : Int)] ∧ d = .list ((KM.parted total many).map spD')
theorem c_parted (T : Txt P wd K mg dW) : ∀ n : Nat, C8.Cal P wd K mg base (n + 1) "parted" (spD (rel_parted n)) []
  | 0 => cal_no T.d_parted sc_parted fun vs H Q E ⟨w, ds, d, _, _, ⟨_, _, h, _⟩, _⟩ => by omega
  | n + 1 =>
    have c_parted := c_parted T n
    cal_D T.d_parted sc_parted (fun ds d ⟨_, _, _, _, _, h, _⟩ => by rw [h]; rfl) fun f cdv A outer s H E hr => ⟨_, (pss_cons (ps_if (pt_cmpR (r := rEqD K) (op_eqD hr.units) (pv 1) pe_int (nomark _)) (pss_one (ps_ret (pe_slice sl_list (pe_lst (pa_cons (pe_tup pa_nil) pa_nil)) po_none (po_some (pe_callTy call_int1 (by rfl) T.int (by decide +kernel) (pa_cons (pe_cmpR (r := rEqD K) (op_eqD hr.units) (pv 0) pe_int (nomark _)) pa_nil)))))) pss_nil)
      (pss_cons (ps_set (i := 2) sc_parted.nd rfl (Or.inl rfl) (pe_lst pa_nil))
      (pss_cons (ps_for PassesOwn.never rfl (pi_range2 (by rfl) T.range (pa_cons pe_int (pa_cons (pe_op op_add (pe_op op_sub (pv 0) (pv 1)) pe_int) pa_nil))) (pg_name (i := 3) sc_parted.nd rfl (Or.inr rfl)) (pss_one (ps_expr (pe_bm PySem.F.plainAttrs_list PySem.F.slot_list_extend PySem.F.type_list_extend mt_extend (pv 2) (pa_cons (pe_lc (own := [("rest", 4)]) rfl sc_parted.nd (pi_list (C8.pe_c c_parted hr (by omega) (by rfl) (pa_cons (pe_op op_sub (pv 0) (pv 3)) (pa_cons (pe_op op_sub (pv 1) pe_int) pa_nil)))) (blkOk_by (own := [("rest", 4)]) (N := N_parted) (sc := defScope s_parted) (by decide +kernel)) (fun _ _ _ _ _ => (pg_name (i := 4) sc_parted.nd rfl (Or.inl rfl))) (fun _ _ _ _ _ => pts_nil) (fun _ _ _ _ _ => (pe_op (r := rCatA K) op_catA (pe_tup (pa_cons (pv 3) pa_nil)) (pv 4)))) pa_nil)))))
      (pss_one (ps_ret (pv 2)))))), fun w Q ds d ⟨total, many, hn, h2, h8, h1, h4⟩ rt => by
      subst h1 h4
      cases many with
      | zero =>
        refine sq_ifT (et_test (ev_eqI (ev_var rfl) ev_int)) (by rfl) fun w1 r1 => ?_
        refine on_ret r1 (D1 := fun e => e = .list ((KM.parted total 0).map spD')) ?_ rt
        refine EvD.to (EvN.eve (ev_slL (n := if total = 0 then 1 else 0) (ds := [.tuple []]) (EvN.eve ((ev_lst (ea_conse (ev_tupe ea_nil (by simp)) ea_nil) fun ds h => by rw [h]; simp).imp fun ds h => h)) (EvD.to (ev_intb (ea_conse (ev_eqI (ev_var rfl) ev_int) ea_nil)) ?_) ?_)) ?_
        · by_cases h : total = 0
          · subst h; rfl
          · have : ¬ ((total : Int) = 0) := by omega
            simp [h, this]
        · split <;> simp
        · unfold KM.parted
          by_cases h : total = 0
          · subst h; rfl
          · simp [h]
      | succ m =>
        refine sq_ifF (et_test (ev_eqI (ev_var rfl) ev_int)) (decide_eq_false (by omega)) fun w1 r1 => ?_
        refine sq_setNe ev_nilN fun p w2 r2 hp => ?_
        have hp0 := r1.free hp
        refine sq_for (S := List (List Nat)) (js := [3]) (List.range (total - m)) (fun i => .int (1 + (i : Int))) (EvI.eq (ei_range2 (ea_conse ev_int (ea_conse (ev_ope (ev_ope (ev_var rfl) (ev_var rfl) rd_i) ev_int rd_i) ea_nil)) (by omega) (by omega) (by omega) (by omega)) (by congr 2; omega)) (r1.trans r2)
          (fun l => [.dat (.int (total : Int)), .dat (.int ((m + 1 : Nat) : Int)), .ml p (l.map spD'), .no, .no]) (fun l i => l ++ (KM.parted (total - (i + 1)) m).map ((i + 1) :: ·)) (fun i l => l.length ≤ i * 8) [] (.same (.same (.same (.no (.no .nil))))) (by simp) ?_ ?_ ?_
        · intro i l x hx hl
          have := parted_few (total - (x + 1)) (by omega) m (by omega)
          rw [List.length_append, List.length_map, Nat.succ_mul]
          omega
        · intro i l x w3 G0 hx hl _ r3 x3 x4
          have hi := (List.getElem?_eq_some_iff.mp hx).1
          rw [List.length_range] at hi
          rw [List.getElem?_range hi] at hx
          obtain rfl : i = x := Option.some.inj hx
          have few := parted_few (total - (i + 1)) (by omega) m (by omega)
          refine ⟨_, tg_name, ?_⟩
          refine on_extq (es := ((KM.parted (total - (i + 1)) m).map ((i + 1) :: ·)).map spD') r3 hp0 rfl ⟨trivial, trivial, trivial, trivial, trivial, trivial⟩ ((ev_lc (js := [4]) (KM.parted (total - (i + 1)) m) spD' (ei_list (ev_call (ea_conse (EvD.to (ev_ope (ev_var rfl) (ev_var rfl) rd_i) (e := .int ((total - (i + 1) : Nat) : Int)) (by congr 1; omega)) (ea_conse (EvD.to (ev_ope (ev_var rfl) ev_int rd_i) (e := .int (m : Int)) (by congr 1; omega)) ea_nil)) ⟨total - (i + 1), m, by omega, by omega, by omega, rfl, rfl⟩)) (by omega) (by simp)
            (fun sp => [.dat (.int (total : Int)), .dat (.int ((m + 1 : Nat) : Int)), .ml p (l.map spD'), .dat (.int (1 + (i : Int))), .dat (spD' sp)]) (fun sp => spD' ((i + 1) :: sp)) (fun sp _ => tg_name) fun sp hsp => EvD.to (ev_ope (d := .tuple [.int (1 + (i : Int))]) (e := spD' sp) (ev_tupe (ea_conse (ev_var rfl) ea_nil) (by simp)) (ev_var rfl) (rd_catT (by rw [List.length_map, KM.parted_len _ _ _ hsp]; simp; omega))) ?_).imp fun ds h => by rw [h, List.map_map]; rfl) (by rw [List.length_map, List.length_map, List.length_map]; omega) fun w4 r4 x5 => ?_
          · unfold spD'
            rw [List.map_cons]
            show PyData.tuple (.int (1 + (i : Int)) :: _) = .tuple (.int ((i + 1 : Nat) : Int) :: _)
            rw [show (1 + (i : Int)) = ((i + 1 : Nat) : Int) by omega]
            rfl
          · rw [← List.map_append]
            exact on_nx r4 (x4.trans x5) (.same (.same (.same (.no (.no .nil)))))
        · intro w3 _ r3 x3
          have e : (List.range (total - m)).foldl (fun l i => l ++ (KM.parted (total - (i + 1)) m).map ((i + 1) :: ·)) [] = KM.parted total (m + 1) := by
            rw [foldl_app, List.nil_append]
            rfl
          rw [e]
          exact on_retM r3 hp0 rfl rt⟩
theorem nat_bits {n a : Nat} (h : n ≤ 1024 ^ a) : ((n : Nat) : Int).natAbs < 2 ^ (10 * a + 1) := by
  rw [Int.natAbs_natCast]
  have e : (1024 : Nat) ^ a = 2 ^ (10 * a) := by rw [show (1024 : Nat) = 2 ^ 10 by decide, ← Nat.pow_mul]
  have := Nat.pow_lt_pow_right (a := 2) (by omega) (show 10 * a < 10 * a + 1 by omega)
  omega
theorem zeros_eq {α : Type} : ∀ xs : List α, (xs.map fun _ => PyData.int 0) = (List.replicate xs.length 0).map iD
  | [] => rfl
  | x :: xs => by rw [List.map_cons, zeros_eq xs, List.length_cons, List.replicate_succ]; rfl
/-! tree_counts -/
def rel_tree_counts : List PyData → PyData → Prop := fun ds d => ∃ (sg : List (Nat × Nat)) (rs : List Rl) (most : Nat), BOk sg rs ∧ most ≤ 9 ∧ ds = [bD sg rs, .int (most : Int)] ∧ d = cD (countsN rs sg.length most)
theorem c_tree_counts (T : Txt P wd K mg dW) : C8.Cal P wd K mg base 5 "tree_counts" (spD rel_tree_counts) [] :=
  have c_parted := c_parted (P := P) (base := base) T 3
  cal_D T.d_tree_counts sc_tree_counts (fun ds d ⟨_, _, _, _, _, h, _⟩ => by rw [h]; rfl) fun f cdv A outer s H E hr => ⟨_, (pss_cons (ps_set (i := 2) sc_tree_counts.nd rfl (Or.inl rfl) (pe_lst (pa_cons (pe_lc (own := [("sign", 5)]) rfl sc_tree_counts.nd (pi_list (pe_ix (r := rIxT K) ix_tup (pv 0) pe_int (fun _ _ => rfl))) (blkOk_by (own := [("sign", 5)]) (N := N_tree_counts) (sc := defScope s_tree_counts) (by decide +kernel)) (fun _ _ _ _ _ => (pg_name (i := 5) sc_tree_counts.nd rfl (Or.inl rfl))) (fun _ _ _ _ _ => pts_nil) (fun _ _ _ _ _ => pe_int)) pa_nil)))
      (pss_cons (ps_for PassesOwn.never rfl (pi_range2 (by rfl) T.range (pa_cons pe_int (pa_cons (pe_op op_add (pv 1) pe_int) pa_nil))) (pg_name (i := 3) sc_tree_counts.nd rfl (Or.inl rfl)) (pss_cons (ps_setLc (i := 4) (own := [("sign", 5)]) rfl sc_tree_counts.nd rfl rfl (sw_true rfl rfl rfl (by decide +kernel)) (pi_list (pe_ix (r := rIxT K) ix_tup (pv 0) pe_int (fun _ _ => rfl))) (blkOk_by (own := [("sign", 5)]) (N := N_tree_counts) (sc := defScope s_tree_counts) (by decide +kernel)) (fun _ _ _ _ _ => (pg_name (i := 5) sc_tree_counts.nd rfl (Or.inl rfl))) (fun _ _ _ _ _ => pts_nil) (fun _ _ _ _ _ => pe_int))
      (pss_cons (ps_for PassesOwn.never rfl (pi_list (pe_ix (r := rIxT K) ix_tup (pv 0) pe_int (fun _ _ => rfl))) (pg_tup rfl (pgs_cons (pg_name (i := 5) sc_tree_counts.nd rfl (Or.inl rfl)) (pgs_cons (pg_name (i := 6) sc_tree_counts.nd rfl (Or.inl rfl)) (pgs_cons (pg_name (i := 7) sc_tree_counts.nd rfl (Or.inl rfl)) pgs_nil)))) (pss_one (ps_for PassesOwn.never rfl (pi_list (C8.pe_c c_parted hr (by omega) (by rfl) (pa_cons (pe_op op_sub (pv 3) pe_int) (pa_cons (pe_callB (r := rLen K) call_len_seq (by rfl) T.len PySem.boot_len (pa_cons (pv 6) pa_nil)) pa_nil)))) (pg_name (i := 8) sc_tree_counts.nd rfl (Or.inl rfl)) (pss_cons (ps_set (i := 9) sc_tree_counts.nd rfl (Or.inl rfl) pe_int)
      (pss_cons (ps_for PassesOwn.never rfl (RZ.pi_zipA (by rfl) T.zip (pa_cons (pv 8) (pa_cons (pv 6) pa_nil))) (pg_tup rfl (pgs_cons (pg_name (i := 10) sc_tree_counts.nd rfl (Or.inl rfl)) (pgs_cons (pg_name (i := 11) sc_tree_counts.nd rfl (Or.inl rfl)) pgs_nil))) (pss_one (ps_set (i := 9) sc_tree_counts.nd rfl (Or.inl rfl) (pe_op op_mulW (pv 9) (pe_ix (r := rIxL K) ix_list (pe_ix (r := rIxL K) ix_list (pv 2) (pv 10) (fun _ _ => rfl)) (pv 11) (fun _ _ => rfl))))))
      (pss_one (ps_asg (pe_op op_add (pe_ix (r := rIxL K) ix_list (pv 4) (pv 5) (fun _ _ => rfl)) (pv 9)) (pg_sub (pv 4) (pv 5) set_list))))))))
      (pss_one (ps_expr (pe_bm PySem.F.plainAttrs_list PySem.F.slot_list_append PySem.F.type_list_append mt_append (pv 2) (pa_cons (pv 4) pa_nil)))))))
      (pss_one (ps_ret (pv 2))))), fun w Q ds d ⟨sg, rs, most, hok, hm, h1, h4⟩ rt => by
    subst h1 h4
    have bk := hok.bk
    have a4 := hok.s.l4
    have a8 := hok.r8
    have zeros : ∀ {Γ : List De} {Γ' : Nat × Nat → List De} {w1 : Wo}, Γ[0]? = some (.dat (bD sg rs)) → (∀ p, Tg (gName 5) [5] (pD p) (wipeG Γ [5]) (Γ' p)) → EvN none (tLc (iList K (tOp (rIxT K) (tVar 0) (tC (.int 0)))) (gName 5) tYes (tC (.int 0)) [5]) Γ w1 (fun e => e = (List.replicate sg.length 0).map iD) := fun h1 h2 =>
      (ev_lc (js := [5]) sg pD (ei_list (ev_ixT 0 (ds := [.list (sg.map pD), .list (rs.map rD)]) (ev_var h1) ev_int rfl)) (by omega) (by simp) _ (fun _ => .int 0) (fun p _ => h2 p) fun p _ => ev_int).imp fun ds h => by rw [h, zeros_eq]
    refine sq_setNe (es := (countsN rs sg.length 0).map rowD) ((ev_lst (ea_conse (EvN.eve (zeros rfl fun p => tg_name)) ea_nil) fun ds h => by rw [h]; simp).imp fun ds h => h) fun a w1 r1 ha => ?_
    refine sq_for (S := List (List Nat)) (js := [3]) (List.range most) (fun i => .int (1 + (i : Int))) (EvI.eq (ei_range2 (ea_conse ev_int (ea_conse (ev_ope (ev_var rfl) ev_int rd_i) ea_nil)) (by omega) (by omega) (by omega) (by omega)) (by congr 2; omega)) r1
      (fun rows => [.dat (bD sg rs), .dat (.int (most : Int)), .ml a (rows.map rowD), .no, .no, .no, .no, .no, .no, .no, .no, .no]) (fun rows i => rows ++ [KM.freshOf rs rows sg.length (i + 1)]) (fun i rows => rows = countsN rs sg.length i) (countsN rs sg.length 0) (Le.refl _) rfl ?_ ?_ ?_
    · intro i rows x hx e
      have hi := (List.getElem?_eq_some_iff.mp hx).1
      rw [List.length_range] at hi
      rw [List.getElem?_range hi] at hx
      obtain rfl : i = x := Option.some.inj hx
      rw [e]
      rfl
    · intro i rows x w2 G0 hx e _ r2 x2 x3
      have hi := (List.getElem?_eq_some_iff.mp hx).1
      rw [List.length_range] at hi
      rw [List.getElem?_range hi] at hx
      obtain rfl : i = x := Option.some.inj hx
      have hrl : rows.length = i + 1 := by rw [e]; exact KM.countsN_len _ _ _
      have hrow : ∀ c, c ≤ i → (rows.getD c []).length = sg.length := fun c hc => by rw [e]; exact counts_row rs _ i c hc
      have hcell : ∀ c s, c ≤ i → cell rows c s ≤ 1024 ^ 9 := fun c s hc => by
        rw [e]
        exact Nat.le_trans (KM.cell_bound bk i c s (by omega)) (Nat.pow_le_pow_right (by omega) (by omega))
      refine ⟨_, tg_name, ?_⟩
      refine on_has (j := 2) rfl fun hA => ?_
      refine sq_setNe (zeros rfl fun p => tg_name) fun b w3 r3 hb => ?_
      have hb0 := r2.free hb
      have hab : b ≠ a := fun z => by
        rw [z] at hb
        exact hA hb
      refine sq_for (S := List Nat) (js := [5, 6, 7]) rs rD (ei_list (ev_ixT 1 (ds := [.list (sg.map pD), .list (rs.map rD)]) (ev_var rfl) ev_int rfl)) (r2.trans r3)
        (fun fr => [.dat (bD sg rs), .dat (.int (most : Int)), .ml a (rows.map rowD), .dat (.int (1 + (i : Int))), .ml b (fr.map iD), .no, .no, .no, .no, .no, .no, .no]) (fun fr ru => KM.freshR rows (i + 1) fr ru) (fun j fr => fr.length = sg.length) (List.replicate sg.length 0) (Le.refl _) (by simp) ?_ ?_ ?_
      · intro j fr ru _ hl
        rw [KM.freshR_len]
        exact hl
      · intro j fr ru w4 G1 hru hl _ r4 x4 x5
        have hr := hok.r ru (List.mem_of_getElem? hru)
        refine ⟨_, tg_tup (tgs_cons tg_name (tgs_cons tg_name (tgs_cons tg_name tgs_nil))), ?_⟩
        have few := parted_few i (by omega) ru.parts.length hr.p2
        refine on_for (S := List Nat) (js := [8]) (KM.parted i ru.parts.length) spD' (ei_list (ev_call (ea_conse (EvD.to (ev_ope (ev_var rfl) ev_int rd_i) (e := .int (i : Int)) (by congr 1; omega)) (ea_conse (ev_lenT (n := ru.parts.length) (ev_var rfl) (by simp)) ea_nil)) ⟨i, ru.parts.length, by have := hr.p2; omega, hr.p2, by omega, rfl, rfl⟩)) r4
          (fun fr => [.dat (bD sg rs), .dat (.int (most : Int)), .ml a (rows.map rowD), .dat (.int (1 + (i : Int))), .ml b (fr.map iD), .dat (.int (ru.sign : Int)), .dat (.tuple (ru.parts.map iD)), .no, .no, .no, .no, .no]) (fun fr sp => KM.freshS rows ru.sign ru.parts fr sp) (fun j fr => fr.length = sg.length) fr (.same (.same (.same (.same (.same (.same (.same (.no (.no (.no (.no (.no .nil)))))))))))) hl ?_ ?_ ?_
        · intro j fr sp _ hl
          unfold KM.freshS
          rw [List.length_set]
          exact hl
        · intro j fr sp w5 G2 hsp hl _ r5 x6 x7
          have hspm := List.mem_of_getElem? hsp
          have hspl := KM.parted_len _ _ _ hspm
          refine ⟨_, tg_name, ?_⟩
          refine sq_sete ev_int fun w6 r6 => ?_
          refine sq_for (S := Nat) (js := [10, 11]) (sp.zip ru.parts) (fun q => .tuple [iD q.1, iD q.2]) (EvI.eq (ei_zip (ds := sp.map iD) (es := ru.parts.map iD) (ea_conse (ev_var rfl) (ea_conse (ev_var rfl) ea_nil))) (zip_map iD iD sp ru.parts)) (r5.trans r6)
            (fun wv => [.dat (bD sg rs), .dat (.int (most : Int)), .ml a (rows.map rowD), .dat (.int (1 + (i : Int))), .ml b (fr.map iD), .dat (.int (ru.sign : Int)), .dat (.tuple (ru.parts.map iD)), .no, .dat (spD' sp), .dat (.int (wv : Int)), .no, .no]) (fun wv q => wv * cell rows q.1 q.2) (fun j wv => wv ≤ 1024 ^ (9 * j)) 1 (.same (.same (.same (.same (.same (.same (.same (.no (.same (.same (.no (.no .nil)))))))))))) (by simp) ?_ ?_ ?_
          · intro j wv q hq hw
            have hc := KM.parted_le _ _ _ hspm q.1 (List.of_mem_zip (List.mem_of_getElem? hq)).1
            rw [Nat.mul_succ, Nat.pow_add]
            exact Nat.mul_le_mul hw (hcell q.1 q.2 hc.2)
          · intro j wv q w7 G3 hq hw _ r7 x8 x9
            have hqm := List.of_mem_zip (List.mem_of_getElem? hq)
            have hc := KM.parted_le _ _ _ hspm q.1 hqm.1
            have hp := hr.pt q.2 hqm.2
            have hj : j < 2 := by
              have := (List.getElem?_eq_some_iff.mp hq).1
              rw [List.length_zip] at this
              have := hr.p2
              omega
            refine ⟨_, tg_tup (tgs_cons tg_name (tgs_cons tg_name tgs_nil)), ?_⟩
            refine on_sete (EvD.to (ev_ope (ev_var rfl) (ev_ixL (ds := (rows.getD q.1 []).map iD) q.2 (ev_ixM (j := q.1) rfl (ev_var rfl) (getRow (by omega))) (ev_var rfl) (getCell (by rw [hrow q.1 hc.2]; exact hp))) (rd_ic (C := CMulW) (g := fun i j => i * j) (wide_mul (nat_bits hw) (nat_bits (hcell q.1 q.2 hc.2)) (by omega) (by omega) (by omega)))) (e := .int ((wv * cell rows q.1 q.2 : Nat) : Int)) (by rw [Int.natCast_mul]; rfl)) fun w8 r8 => ?_
            exact on_nx (r7.trans r8) (x9.trans r8.g) (.same (.same (.same (.same (.same (.same (.same (.no (.same (.same (.no (.no .nil))))))))))))
          · intro w7 _ r7 x8
            have hs : ru.sign < fr.length := by have := hr.sg_lt; omega
            refine on_setI r7 hb0 rfl ⟨trivial, trivial, hab.symm, trivial, trivial, trivial, trivial, trivial, trivial, trivial, trivial, trivial, trivial⟩ (EvD.to (ev_ope (ev_ixM (j := ru.sign) rfl (ev_var rfl) (getCell hs)) (ev_var rfl) rd_i) (e := iD (fr.getD ru.sign 0 + KM.ways rows sp ru.parts)) (by unfold iD; rw [Int.natCast_add]; rfl)) (ev_var rfl) (by rw [List.length_map]; exact hs) fun w8 r8 x9 => ?_
            rw [← List.map_set]
            exact on_nx r8 (((x7.trans r6.g).trans x8).trans x9) (.same (.same (.same (.same (.same (.same (.same (.no (.no (.no (.no (.no .nil))))))))))))
        · intro w5 _ r5 x6
          exact on_nx r5 (x5.trans x6) (.same (.same (.same (.same (.same (.no (.no (.no (.no (.no (.no (.no .nil))))))))))))
      · intro w4 _ r4 x4
        refine on_appM (es := (rs.foldl (fun fr ru => KM.freshR rows (i + 1) fr ru) (List.replicate sg.length 0)).map iD) r4 ha hb0 hab rfl rfl ⟨trivial, trivial, trivial, trivial, trivial, trivial, trivial, trivial, trivial, trivial, trivial, trivial, trivial⟩ ⟨trivial, trivial, hab.symm, trivial, trivial, trivial, trivial, trivial, trivial, trivial, trivial, trivial, trivial⟩ (by decide) (by rw [List.length_map, hrl]; omega) fun w5 r5 x5 => ?_
        have em : (rows ++ [KM.freshOf rs rows sg.length (i + 1)]).map rowD = rows.map rowD ++ [.list ((rs.foldl (fun fr ru => KM.freshR rows (i + 1) fr ru) (List.replicate sg.length 0)).map iD)] := by rw [List.map_append]; rfl
        rw [em]
        exact on_nx r5 (((x3.trans r3.g).trans x4).trans x5) (.same (.same (.same (.no (.no (.no (.no (.no (.no (.no (.no (.no .nil))))))))))))
    · intro w2 e r2 x2
      rw [List.length_range] at e
      rw [e]
      exact on_retM r2 ha rfl rt⟩
end
end U
end

section
set_option maxRecDepth 100000
set_option maxHeartbeats 4000000
/-! trees_of. -/
namespace U
open PySem PySem.Spec PyProof.Rows L2 HT2
open KM (cell countsN treesF)
theorem zip_bring (rec : Nat → Nat → List KM.T) (cs : List (List Nat)) (s k : Nat) : ∀ (rs : List Rl) (i : Nat) (acc : List KM.T), (rs.zipIdx i).foldl (fun f q => f ++ KM.bring rec cs s k q.2 q.1) acc = acc ++ KM.bringA rec cs s k i rs
  | [], i, acc => by simp [KM.bringA]
  | r :: rs, i, acc => by rw [List.zipIdx_cons, List.foldl_cons, zip_bring rec cs s k rs (i + 1), KM.bringA, List.append_assoc]
theorem pos_cast (n : Nat) : decide ((0 : Int) < (n : Int)) = decide (0 < n) := by by_cases h : 0 < n <;> simp [h]
section
variable {P : Program} {wd : World} {K : PySem.W.Frag} {mg : Str → Option Value} {base : Heap} {dW : Addr}
def rel_trees_of (n : Nat) : List PyData → PyData → Prop := fun ds d => ∃ (sg : List (Nat × Nat)) (rs : List Rl) (most s k : Nat), BOk sg rs ∧ most ≤ 9 ∧ 1 ≤ k ∧ k ≤ most ∧ k < n ∧ n ≤ 12 ∧ s < sg.length ∧ cell (countsN rs sg.length most) k s ≤ 300 ∧
  ds = [bD sg rs, cD (countsN rs sg.length most), .int (s : Int), .int (k : Int)] ∧ d = .list ((treesF rs (countsN rs sg.length most) n s k).map tD)
theorem c_trees_of (T : Txt P wd K mg dW) : ∀ n : Nat, C8.Cal P wd K mg base (n + 5) "trees_of" (spD (rel_trees_of n)) []
  | 0 => cal_no T.d_trees_of sc_trees_of fun vs H Q E ⟨w, ds, d, _, _, ⟨_, _, _, _, _, _, _, _, _, h, _⟩, _⟩ => by omega
  | n + 1 =>
    have c_trees_of := c_trees_of T n
    have c_parted := c_parted (P := P) (base := base) T 3
    have c_choices_of := c_choices_of (P := P) (base := base) T
    cal_D T.d_trees_of sc_trees_of (fun ds d ⟨_, _, _, _, _, _, _, _, _, _, _, _, _, h, _⟩ => by rw [h]; rfl) fun f cdv A outer s H E hr => ⟨_, (pss_cons (ps_set (i := 4) sc_trees_of.nd rfl (Or.inl rfl) (pe_lst pa_nil))
      (pss_cons (ps_for PassesOwn.never rfl (pi_enum (by rfl) T.enumerate (pa_cons (pe_ix (r := rIxT K) ix_tup (pv 0) pe_int (fun _ _ => rfl)) pa_nil)) (pg_tup rfl (pgs_cons (pg_name (i := 5) sc_trees_of.nd rfl (Or.inr rfl)) (pgs_cons (pg_tup rfl (pgs_cons (pg_name (i := 6) sc_trees_of.nd rfl (Or.inl rfl)) (pgs_cons (pg_name (i := 7) sc_trees_of.nd rfl (Or.inl rfl)) (pgs_cons (pg_name (i := 8) sc_trees_of.nd rfl (Or.inl rfl)) pgs_nil)))) pgs_nil))) (pss_one (ps_for PassesOwn.never rfl (pi_list (C8.pe_c c_parted hr (by omega) (by rfl) (pa_cons (pe_op op_sub (pv 3) pe_int) (pa_cons (pe_callB (r := rLen K) call_len_seq (by rfl) T.len PySem.boot_len (pa_cons (pv 7) pa_nil)) pa_nil)))) (pg_name (i := 9) sc_trees_of.nd rfl (Or.inl rfl)) (pss_one (ps_if (PW.pt (pw_and (pt_cmpR (r := rEqD K) (op_eqD hr.units) (pv 6) (pv 2) (nomark _)) (pw_and1 (pt_val (pe_callB (r := rAll K) (cr_all rfl) (by rfl) T.all (by decide +kernel) (pa_cons (pe_lc (own := [("count", 11), ("part", 12)]) (g := (gTup K 2 (gCons (gName 11) (gCons (gName 12) gNil)))) rfl sc_trees_of.nd (RZ.pi_zipA (by rfl) T.zip (pa_cons (pv 9) (pa_cons (pv 7) pa_nil))) (blkOk_by (own := [("count", 11), ("part", 12)]) (N := N_trees_of) (sc := defScope s_trees_of) (by decide +kernel)) (fun _ _ _ _ _ => (pg_tup rfl (pgs_cons (pg_name (i := 11) sc_trees_of.nd rfl (Or.inl rfl)) (pgs_cons (pg_name (i := 12) sc_trees_of.nd rfl (Or.inl rfl)) pgs_nil)))) (fun _ _ _ _ _ => pts_nil) (fun _ _ _ _ _ => (pe_cmpR op_gt (pe_ix (r := rIxL K) ix_list (pe_ix (r := rIxL K) ix_list (pv 1) (pv 11) (fun _ _ => rfl)) (pv 12) (fun _ _ => rfl)) pe_int (nomark _)))) pa_nil)))))) (pss_cons (ps_setLc (i := 10) (own := [("count", 11), ("part", 12)]) (g := (gTup K 2 (gCons (gName 11) (gCons (gName 12) gNil)))) rfl sc_trees_of.nd rfl rfl (sw_true rfl rfl rfl (by decide +kernel)) (RZ.pi_zipA (by rfl) T.zip (pa_cons (pv 9) (pa_cons (pv 7) pa_nil))) (blkOk_by (own := [("count", 11), ("part", 12)]) (N := N_trees_of) (sc := defScope s_trees_of) (by decide +kernel)) (fun _ _ _ _ _ => (pg_tup rfl (pgs_cons (pg_name (i := 11) sc_trees_of.nd rfl (Or.inl rfl)) (pgs_cons (pg_name (i := 12) sc_trees_of.nd rfl (Or.inl rfl)) pgs_nil)))) (fun _ _ _ _ _ => pts_nil) (fun _ _ _ _ _ => (C8.pe_c c_trees_of hr (by omega) (by rfl) (pa_cons (pv 0) (pa_cons (pv 1) (pa_cons (pv 12) (pa_cons (pv 11) pa_nil)))))))
      (pss_one (ps_expr (pe_bm PySem.F.plainAttrs_list PySem.F.slot_list_extend PySem.F.type_list_extend mt_extend (pv 4) (pa_cons (pe_lc (own := [("boughs", 13)]) rfl sc_trees_of.nd (pi_list (C8.pe_c c_choices_of hr (by omega) (by rfl) (pa_cons (pv 10) pa_nil))) (blkOk_by (own := [("boughs", 13)]) (N := N_trees_of) (sc := defScope s_trees_of) (by decide +kernel)) (fun _ _ _ _ _ => (pg_name (i := 13) sc_trees_of.nd rfl (Or.inl rfl))) (fun _ _ _ _ _ => pts_nil) (fun _ _ _ _ _ => (pe_tup (pa_cons (pv 5) (pa_cons (pv 13) pa_nil))))) pa_nil))))) pss_nil)))))
      (pss_one (ps_ret (pe_callB (cr_sortTr (units_lt hr (by decide))) (by rfl) T.sorted (by decide +kernel) (pa_cons (pv 4) pa_nil)))))), fun w Q ds d ⟨sg, rs, most, sn, k, hok, hm, hk1, hkm, hkn, hn, hs, hc, h1, h4⟩ rt => by
      subst h1 h4
      have bk := hok.bk
      have a4 := hok.s.l4
      have a8 := hok.r8
      generalize hcs : countsN rs sg.length most = cs at hc rt ⊢
      have hcl : cs.length = most + 1 := by rw [← hcs]; exact KM.countsN_len _ _ _
      have hrow : ∀ c, c ≤ most → (cs.getD c []).length = sg.length := fun c hc => by rw [← hcs]; exact counts_row rs _ most c hc
      have hL : ∀ ru ∈ rs, ru.sign < sg.length := bk.sg
      have hlen : ∀ p c, 1 ≤ c → c ≤ k - 1 → (treesF rs cs n p c).length = cell cs c p := fun p c h1 h2 => by
        rw [← hcs]
        exact KM.treesF_len hL n p c h1 (by omega) (by omega)
      let one : Rl × Nat → List Nat → List KM.T := fun q sp => if q.1.sign = sn ∧ KM.allPos cs sp q.1.parts = true then (KM.choices ((sp.zip q.1.parts).map fun z => treesF rs cs n z.2 z.1)).map (KM.T.mk q.2) else []
      have hone : ∀ q : Rl × Nat, rs[q.2]? = some q.1 → ∀ sp ∈ KM.parted (k - 1) q.1.parts.length, (one q sp).length ≤ 300 := fun q hq sp hsp => by
        show (if q.1.sign = sn ∧ KM.allPos cs sp q.1.parts = true then (KM.choices ((sp.zip q.1.parts).map fun z => treesF rs cs n z.2 z.1)).map (KM.T.mk q.2) else []).length ≤ 300
        split
        · rename_i hh
          obtain ⟨e, ha⟩ := hh
          rw [List.length_map]
          unfold KM.choices
          rw [KM.choices_len]
          have h1 := KM.foldl_lens [] (sp.zip q.1.parts) (treesF rs cs n) cs 1 fun z hz => by
            have h2 := List.of_mem_zip hz
            have h3 := KM.parted_le _ _ sp hsp z.1 h2.1
            exact hlen z.2 z.1 h3.1 h3.2
          have h2 := (KM.part_le (most := most) hL hk1 hkm (List.mem_of_getElem? hq) e hsp (by rw [hcs]; exact ha)).1
          rw [hcs] at h2
          refine Nat.le_trans ?_ (Nat.le_trans h2 hc)
          exact Nat.le_of_eq h1
        · simp
      refine sq_setNe ev_nilN fun a w1 r1 ha => ?_
      refine sq_for (S := List KM.T) (js := [5, 6, 7, 8]) rs.zipIdx (fun q => .tuple [.int (q.2 : Int), rD q.1]) (EvI.eq (ei_enum (ea_conse (ev_ixT 1 (ds := [.list (sg.map pD), .list (rs.map rD)]) (ev_var rfl) ev_int rfl) ea_nil)) (enum_map rD rs)) r1
        (fun found => [.dat (bD sg rs), .dat (cD cs), .dat (.int (sn : Int)), .dat (.int (k : Int)), .ml a (found.map tD), .no, .no, .no, .no, .no, .no, .no, .no, .no]) (fun f q => f ++ KM.bring (treesF rs cs n) cs sn k q.2 q.1) (fun i f => f.length ≤ i * 2400) [] (Le.refl _) (by simp) ?_ ?_ ?_
      · intro i f q hq hf
        have hqm : rs[q.2]? = some q.1 := List.mem_zipIdx_iff_getElem?.mp (List.mem_of_getElem? hq)
        have hru := hok.r q.1 (List.mem_of_getElem? hqm)
        have few := parted_few (k - 1) (by omega) q.1.parts.length hru.p2
        have h1 : (KM.bring (treesF rs cs n) cs sn k q.2 q.1).length ≤ (KM.parted (k - 1) q.1.parts.length).length * 300 := KM.flatMap_len (one q) 300 _ (hone q hqm)
        have h2 : (KM.parted (k - 1) q.1.parts.length).length * 300 ≤ 8 * 300 := Nat.mul_le_mul_right _ few
        rw [List.length_append, Nat.succ_mul]
        omega
      · intro i found q w2 G0 hq hl _ r2 x2 x3
        have hqm : rs[q.2]? = some q.1 := List.mem_zipIdx_iff_getElem?.mp (List.mem_of_getElem? hq)
        have hru := hok.r q.1 (List.mem_of_getElem? hqm)
        have hi : i < 8 := by
          have := (List.getElem?_eq_some_iff.mp hq).1
          rw [List.length_zipIdx] at this
          omega
        refine ⟨_, tg_tup (tgs_cons tg_name (tgs_cons (tg_tup (tgs_cons tg_name (tgs_cons tg_name (tgs_cons tg_name tgs_nil)))) tgs_nil)), ?_⟩
        have few := parted_few (k - 1) (by omega) q.1.parts.length hru.p2
        refine on_for (S := List KM.T) (js := [9]) (KM.parted (k - 1) q.1.parts.length) spD' (ei_list (ev_call (ea_conse (EvD.to (ev_ope (ev_var rfl) ev_int rd_i) (e := .int ((k - 1 : Nat) : Int)) (by congr 1; omega)) (ea_conse (ev_lenT (n := q.1.parts.length) (ev_var rfl) (by simp)) ea_nil)) ⟨k - 1, q.1.parts.length, by have := hru.p2; omega, hru.p2, by omega, rfl, rfl⟩)) r2
          (fun found => [.dat (bD sg rs), .dat (cD cs), .dat (.int (sn : Int)), .dat (.int (k : Int)), .ml a (found.map tD), .dat (.int (q.2 : Int)), .dat (.int (q.1.sign : Int)), .dat (.tuple (q.1.parts.map iD)), .no, .no, .no, .no, .no, .no]) (fun f sp => f ++ one q sp) (fun j f => f.length ≤ i * 2400 + j * 300) found (.same (.same (.same (.same (.same (.same (.same (.same (.no (.no (.no (.no (.no (.no .nil)))))))))))))) (by omega) ?_ ?_ ?_
        · intro j f sp hsp hf
          have := hone q hqm sp (List.mem_of_getElem? hsp)
          rw [List.length_append, Nat.succ_mul]
          omega
        · intro j f sp w3 G1 hsp hf _ r3 x4 x5
          have hspm := List.mem_of_getElem? hsp
          have hspl := KM.parted_len _ _ _ hspm
          have hj : j < 8 := by have := (List.getElem?_eq_some_iff.mp hsp).1; omega
          have hzl : (sp.zip q.1.parts).length ≤ 2 := by rw [List.length_zip]; have := hru.p2; omega
          have hz : ∀ z ∈ sp.zip q.1.parts, 1 ≤ z.1 ∧ z.1 ≤ k - 1 ∧ z.2 < sg.length := fun z hz => by
            have h1 := List.of_mem_zip hz
            have h2 := KM.parted_le _ _ _ hspm z.1 h1.1
            exact ⟨h2.1, h2.2, hru.pt z.2 h1.2⟩
          refine ⟨_, tg_name, ?_⟩
          refine on_ife (b := decide (q.1.sign = sn) && KM.allPos cs sp q.1.parts) (et_and (et_test (EvD.to (ev_eqI (ev_var rfl) (ev_var rfl)) (by congr 1; exact decide_eq_decide.mpr (by omega)))) fun _ => et_B (EvD.to (ev_all (bs := (sp.zip q.1.parts).map fun z => decide (0 < cell cs z.1 z.2)) (ea_conse (EvD.to (EvN.eve (ev_lc (js := [11, 12]) (sp.zip q.1.parts) (fun z => .tuple [iD z.1, iD z.2]) (EvI.eq (ei_zip (ds := sp.map iD) (es := q.1.parts.map iD) (ea_conse (ev_var rfl) (ea_conse (ev_var rfl) ea_nil))) (zip_map iD iD sp q.1.parts)) (by omega) (by simp)
            (fun z => [.dat (bD sg rs), .dat (cD cs), .dat (.int (sn : Int)), .dat (.int (k : Int)), .ml a (f.map tD), .dat (.int (q.2 : Int)), .dat (.int (q.1.sign : Int)), .dat (.tuple (q.1.parts.map iD)), .no, .dat (spD' sp), .no, .dat (iD z.1), .dat (iD z.2), .no]) (fun z => .bool (decide (0 < cell cs z.1 z.2))) (fun z _ => tg_tup (tgs_cons tg_name (tgs_cons tg_name tgs_nil))) fun z hzz => EvD.to (ev_ope (ev_ixL (ds := (cs.getD z.1 []).map iD) z.2 (ev_ixL (ds := cs.map rowD) z.1 (ev_var rfl) (ev_var rfl) (getRow (by have := hz z hzz; omega))) (ev_var rfl) (getCell (by rw [hrow z.1 (by have := hz z hzz; omega)]; exact (hz z hzz).2.2))) ev_int rd_b) (by rw [← pos_cast]; rfl))) (by rw [List.map_map]; rfl)) ea_nil)) (by unfold KM.allPos; rw [List.all_map]; rfl))) (fun w4 r4 hb => ?_) fun w4 r4 hb => ?_
          · rw [Bool.and_eq_true, decide_eq_true_eq] at hb
            obtain ⟨hb1, hb2⟩ := hb
            have hone2 := hone q hqm sp hspm
            have e : one q sp = (KM.choices ((sp.zip q.1.parts).map fun z => treesF rs cs n z.2 z.1)).map (KM.T.mk q.2) := if_pos ⟨hb1, hb2⟩
            have hple := (KM.part_le (most := most) hL hk1 hkm (List.mem_of_getElem? hqm) hb1 hspm (by rw [hcs]; exact hb2)).2
            rw [hcs] at hple
            have hc2 : ∀ z ∈ sp.zip q.1.parts, cell cs z.1 z.2 ≤ 300 := fun z hzz => Nat.le_trans (hple z hzz) hc
            rw [e] at hone2 ⊢
            rw [List.length_map] at hone2
            refine sq_sete (d := .list (((sp.zip q.1.parts).map fun z => treesF rs cs n z.2 z.1).map trD)) (EvD.to (EvN.eve (ev_lc (js := [11, 12]) (sp.zip q.1.parts) (fun z => .tuple [iD z.1, iD z.2]) (EvI.eq (ei_zip (ds := sp.map iD) (es := q.1.parts.map iD) (ea_conse (ev_var rfl) (ea_conse (ev_var rfl) ea_nil))) (zip_map iD iD sp q.1.parts)) (by omega) (by simp)
              (fun z => [.dat (bD sg rs), .dat (cD cs), .dat (.int (sn : Int)), .dat (.int (k : Int)), .ml a (f.map tD), .dat (.int (q.2 : Int)), .dat (.int (q.1.sign : Int)), .dat (.tuple (q.1.parts.map iD)), .no, .dat (spD' sp), .no, .dat (iD z.1), .dat (iD z.2), .no]) (fun z => trD (treesF rs cs n z.2 z.1)) (fun z _ => tg_tup (tgs_cons tg_name (tgs_cons tg_name tgs_nil))) fun z hzz => ev_call (ea_conse (ev_var rfl) (ea_conse (ev_var rfl) (ea_conse (ev_var rfl) (ea_conse (ev_var rfl) ea_nil)))) ⟨sg, rs, most, z.2, z.1, hok, hm, (hz z hzz).1, by have := hz z hzz; omega, by have := hz z hzz; omega, by omega, (hz z hzz).2.2, by rw [hcs]; exact hc2 z hzz, by rw [hcs]; rfl, by rw [hcs]; rfl⟩)) (by rw [List.map_map]; rfl)) fun w5 r5 => ?_
            have hrows : ∀ row ∈ (sp.zip q.1.parts).map (fun z => treesF rs cs n z.2 z.1), row.length ≤ 300 := fun row hro => by
              obtain ⟨z, hzz, e⟩ := List.mem_map.mp hro
              have h := hz z hzz
              rw [← e, hlen z.2 z.1 h.1 h.2.1]
              exact hc2 z hzz
            have hmk : ∀ l ∈ KM.choices ((sp.zip q.1.parts).map fun z => treesF rs cs n z.2 z.1), tD (KM.T.mk q.2 l) = .tuple [.int (q.2 : Int), lD l] := fun l hl => by
              have hll := KM.choices_lens ((sp.zip q.1.parts).map fun z : Nat × Nat => treesF rs cs n z.2 z.1) [[]] 0 (by simp) l hl
              rw [List.length_map] at hll
              rw [tD_mk _ _ (by omega)]
              rfl
            refine on_extq (es := ((KM.choices ((sp.zip q.1.parts).map fun z => treesF rs cs n z.2 z.1)).map (KM.T.mk q.2)).map tD) ((r3.trans r4).trans r5) ha rfl ⟨trivial, trivial, trivial, trivial, trivial, trivial, trivial, trivial, trivial, trivial, trivial, trivial, trivial, trivial, trivial⟩ ((ev_lc (js := [13]) (KM.choices ((sp.zip q.1.parts).map fun z => treesF rs cs n z.2 z.1)) lD (ei_list (ev_call (ea_conse (ev_var rfl) ea_nil) ⟨(sp.zip q.1.parts).map fun z => treesF rs cs n z.2 z.1, by rw [List.length_map]; exact hzl, hrows, rfl, rfl⟩)) (by omega) (by simp)
              (fun l => [.dat (bD sg rs), .dat (cD cs), .dat (.int (sn : Int)), .dat (.int (k : Int)), .ml a (f.map tD), .dat (.int (q.2 : Int)), .dat (.int (q.1.sign : Int)), .dat (.tuple (q.1.parts.map iD)), .no, .dat (spD' sp), .dat (.list (((sp.zip q.1.parts).map fun z => treesF rs cs n z.2 z.1).map trD)), .no, .no, .dat (lD l)]) (fun l => tD (KM.T.mk q.2 l)) (fun l _ => tg_name) fun l hl => EvD.to (ev_tupe (ea_conse (ev_var rfl) (ea_conse (ev_var rfl) ea_nil)) (by simp)) (hmk l hl).symm).imp fun ds h => by rw [h, List.map_map]; rfl) (by rw [List.length_map, List.length_map, List.length_map]; omega) fun w6 r6 x6 => ?_
            rw [← List.map_append]
            exact on_nx r6 (((x5.trans r4.g).trans r5.g).trans x6) (.same (.same (.same (.same (.same (.same (.same (.same (.no (.no (.no (.no (.no (.no .nil))))))))))))))
          · have e : one q sp = [] := if_neg fun ⟨h1, h2⟩ => by rw [decide_eq_true h1, h2] at hb; cases hb
            rw [e, List.append_nil]
            exact on_next (on_nx (r3.trans r4) (x5.trans r4.g) (.same (.same (.same (.same (.same (.same (.same (.same (.no (.no (.no (.no (.no (.no .nil)))))))))))))))
        · intro w3 _ r3 x4
          rw [foldl_app]
          exact on_nx r3 (x3.trans x4) (.same (.same (.same (.same (.same (.no (.no (.no (.no (.no (.no (.no (.no (.no .nil))))))))))))))
      · intro w2 _ r2 x2
        rw [zip_bring, List.nil_append]
        refine on_fix (j := 4) r2 ha rfl ⟨trivial, trivial, trivial, trivial, trivial, trivial, trivial, trivial, trivial, trivial, trivial, trivial, trivial, trivial, trivial⟩ fun w3 r3 x3 => ?_
        refine on_ret r3 (D1 := fun e => e = .list ((treesF rs cs (n + 1) sn k).map tD)) ?_ rt
        refine EvN.eve (ev_sorted (ts := KM.bringA (treesF rs cs n) cs sn k 0 rs) (us := treesF rs cs (n + 1) sn k) (ea_conse (ev_var rfl) ea_nil) (fun t ht => ?_) fun l h1 h2 => KM.treesF_uniq h1 h2)
        have := KM.treesF_hgt rs cs (n + 1) sn k t (List.mem_mergeSort.mpr ht)
        omega⟩
end
end U
end

section
set_option maxRecDepth 100000
set_option maxHeartbeats 4000000
/-! trees_to: it may raise; the law's own def that catches that. -/
namespace U
open PySem PySem.Spec PyProof.Rows L2 HT2
open KM (cell countsN treesF)
/-- what the top has written of the error -/
structure TxtE (K : PySem.W.Frag) (mg : Str → Option Value) (C : Addr) : Prop where
  gC : mg "TooMany" = some (.ref C)
  xC : PySem.W.excIn K C [.type "ValueError", .type "Exception", .type "BaseException", .type "object"] "ValueError.__new__" = true
  kC : PySem.W.keepIn K (.ref C) = true
  sC : PySem.W.subIn K (.ref C) (.type "BaseException") = some true
  tC : PySem.W.typeIn K (.ref C) = some (.type "type")
  eC : PySem.W.exmOne K (.ref C) (.ref C) = some true
/-- data in, data or the error out -/
def spT (C : Addr) (rel : List PyData → Option PyData → Prop) : Sp := fun vs H Q E => ∃ (w : Wo) (ds : List PyData) (r : Option PyData), w.H = H ∧ DaL w.G vs ds ∧ rel ds r ∧ (∀ d, r = some d → ∀ v w2, R none w w2 → Da w2.G v d → Q v w2.H) ∧ (r = none → ∀ w2, R none w w2 → E (.ref C) none w2.H)
section
variable {P : Program} {wd : World} {K : PySem.W.Frag} {mg : Str → Option Value} {base : Heap} {dW C : Addr}
structure CalX (P : Program) (wd : World) (K : PySem.W.Frag) (mg : Str → Option Value) (base : Heap) (k : Nat) (x : Str) (ps : List Str) (sp : Sp) : Prop where
  ex : ∃ (f : Addr) (fd : FuncData), FnOk P wd K mg base (L2.CX P wd) k f fd ps sp ∧ mg x = some (.ref f) ∧ PySem.W.keepIn K (.ref f) = true ∧ Binds K fd ps []
theorem cal_X {x : Str} {st : Stmt} {N ps : List Str} {k : Nat} {rel : List PyData → Option PyData → Prop} (d : DefT K mg x st ps) (S : FnScope N ps (defScope st)) (len : ∀ ds d, rel ds d → ds.length = ps.length)
    (body : ∀ (f : Addr) (cdv : Value) (A : Around) (outer : List Env) (s : Shared) (H : Hp) (E : XK), Room k (A.deeper (envOfC x (defScope st) s.heap.objs.size f cdv)) →
      ∃ t, PSs (cxOf (L2.CX P wd) P wd K mg base N x (defScope st) f cdv A outer s H E) (defBody st) t ∧
        ∀ (w : Wo) (Q : VK) ds r, rel ds r → (∀ d, r = some d → Rt none w (fun e => e = d) Q) → (r = none → ∀ w2, R none w w2 → E (.ref C) none w2.H) → On none (t { nx := fun _ H' => Q .non H', rt := Q }) (ds.map De.dat ++ List.replicate (N.length - ds.length) De.no) w) : CalX P wd K mg base (k + 1) x ps (spT C rel) := by
  obtain ⟨f, fd, F, m, b⟩ := d.ex
  refine ⟨⟨f, fd, F.okX S (fun vs H Q E ⟨w, ds, e, h1, h2, h3, _⟩ => by rw [h2.len]; exact len ds e h3) fun cdv A outer s H vs Q E hr h => ?_, m, F.kp, b⟩⟩
  obtain ⟨t, ht, on⟩ := body f cdv A outer s H E hr
  refine ⟨t, ht, ?_⟩
  obtain ⟨w, ds, r, rfl, hd, hrel, q1, q2⟩ := h
  unfold L2.start
  rw [hd.len]
  exact on w Q ds r hrel (fun d e v w2 r2 ⟨e', h1, h2⟩ => by subst h1; exact q1 _ e v w2 r2 h2) q2 _ (sl_start _ hd)
/-! trees_to -/
def rel_trees_to : List PyData → Option PyData → Prop := fun ds r => ∃ (sg : List (Nat × Nat)) (rs : List Rl) (s most : Nat), BOk sg rs ∧ s < sg.length ∧ most ≤ 9 ∧ ds = [bD sg rs, .int (s : Int), .int (most : Int)] ∧ r = (listT rs sg.length s most).map trD
theorem c_trees_to (T : Txt P wd K mg dW) (X : TxtE K mg C) : CalX P wd K mg base 17 "trees_to" ["book", "sign", "most"] (spT C rel_trees_to) :=
  have c_look_at_sign := c_look_at_sign (P := P) (base := base) T
  have c_is_from := c_is_from (P := P) (base := base) T
  have c_tree_counts := c_tree_counts (P := P) (base := base) T
  have c_trees_of := c_trees_of (P := P) (base := base) T 10
  cal_X T.d_trees_to sc_trees_to (fun ds d ⟨_, _, _, _, _, _, _, h, _⟩ => by rw [h]; rfl) fun f cdv A outer s H E hr => ⟨_, (pss_cons (ps_expr (C8.pe_c c_look_at_sign hr (by omega) (by rfl) (pa_cons (pv 0) (pa_cons (pv 1) pa_nil))))
      (pss_cons (ps_if (pt_not (pt_val (C8.pe_c c_is_from hr (by omega) (by rfl) (pa_cons (pv 2) (pa_cons pe_int (pa_cons (pe_glob (v := .int 9) (by rfl) T.g_MOST_LISTED.choose_spec ⟨_, rfl⟩) pa_nil)))))) (pss_one (ps_raise (W := fun cls d _ H => E cls d H) rfl (takes_of rfl rfl rfl rfl) (pmk_own PySem.F.excBase_ValueError X.xC X.gC X.kC (raises_own X.sC X.tC) (by rfl)))) pss_nil)
      (pss_cons (ps_set (i := 3) sc_trees_to.nd rfl (Or.inl rfl) (C8.pe_c c_tree_counts hr (by omega) (by rfl) (pa_cons (pv 0) (pa_cons (pv 2) pa_nil))))
      (pss_cons (ps_if (pt_cmpR op_gt (pe_callB (r := rSum K) (cr_sum rfl) (by rfl) T.sum (by decide +kernel) (pa_cons (pe_lc (own := [("row", 6)]) rfl sc_trees_to.nd (pi_list (pv 3)) (blkOk_by (own := [("row", 6)]) (N := N_trees_to) (sc := defScope s_trees_to) (by decide +kernel)) (fun _ _ _ _ _ => (pg_name (i := 6) sc_trees_to.nd rfl (Or.inl rfl))) (fun _ _ _ _ _ => pts_nil) (fun _ _ _ _ _ => (pe_ix (r := rIxL K) ix_list (pv 6) (pv 1) (fun _ _ => rfl)))) pa_nil)) (pe_glob (v := .int 300) (by rfl) T.g_MOST_TREES.choose_spec ⟨_, rfl⟩) (nomark _)) (pss_one (ps_raise (W := fun cls d _ H => E cls d H) rfl (takes_of rfl rfl rfl rfl) (pmk_own PySem.F.excBase_ValueError X.xC X.gC X.kC (raises_own X.sC X.tC) (by rfl)))) pss_nil)
      (pss_cons (ps_set (i := 4) sc_trees_to.nd rfl (Or.inl rfl) (pe_lst pa_nil))
      (pss_cons (ps_for (passes_of rfl) rfl (pi_range2 (by rfl) T.range (pa_cons pe_int (pa_cons (pe_op op_add (pv 2) pe_int) pa_nil))) (pg_name (i := 5) sc_trees_to.nd rfl (Or.inl rfl)) (pss_one (ps_set (i := 4) sc_trees_to.nd rfl (Or.inl rfl) (pe_op op_cat (pv 4) (C8.pe_c c_trees_of hr (by omega) (by rfl) (pa_cons (pv 0) (pa_cons (pv 3) (pa_cons (pv 1) (pa_cons (pv 5) pa_nil)))))))))
      (pss_one (ps_ret (pv 4))))))))), fun w Q ds d ⟨sg, rs, sn, most, hok, hs, hm, h1, h2⟩ rt re => by
    subst h1 h2
    have bk := hok.bk
    have a4 := hok.s.l4
    generalize hcs : countsN rs sg.length most = cs
    have hcl : cs.length = most + 1 := by rw [← hcs]; exact KM.countsN_len _ _ _
    have hrow : ∀ c, c ≤ most → (cs.getD c []).length = sg.length := fun c hc => by rw [← hcs]; exact counts_row rs _ most c hc
    have hmem : ∀ row ∈ cs, sn < row.length := fun row hr => by
      obtain ⟨i, hi⟩ := List.mem_iff_getElem?.mp hr
      have h1 := (List.getElem?_eq_some_iff.mp hi).1
      have h2 := hrow i (by omega)
      rw [List.getD_eq_getElem?_getD, hi] at h2
      have h2 : row.length = sg.length := h2
      omega
    refine sq_drop (D1 := fun e => e = .none) (ev_call (ea_conse (ev_var rfl) (ea_conse (ev_var rfl) ea_nil)) ⟨sg, rs, sn, hok, hs, rfl, rfl⟩) fun w1 r1 => ?_
    refine sq_ifF (b := false) (et_not (b := true) (et_test (ev_call (ea_conse (ev_var rfl) (ea_conse ev_int (ea_conse ev_int ea_nil))) (from_ok (by omega) (by omega) rfl)))) rfl fun w2 r2 => ?_
    refine sq_sete (d := cD cs) (ev_call (ea_conse (ev_var rfl) (ea_conse (ev_var rfl) ea_nil)) ⟨sg, rs, most, hok, hm, rfl, by rw [hcs]⟩) fun w3 r3 => ?_
    refine sq_if (b := decide (300 < (cs.map fun row => row.getD sn 0).sum)) (et_test (EvD.to (ev_ope (ev_sumL (ns := (cs.map fun row => row.getD sn 0).map fun (n : Nat) => (n : Int)) (ea_conse (EvD.to (EvN.eve (ev_lc (js := [6]) cs rowD (ei_list (ev_var rfl)) (by omega) (by simp)
      (fun row => [.dat (bD sg rs), .dat (.int (sn : Int)), .dat (.int (most : Int)), .dat (cD cs), .no, .no, .dat (rowD row)]) (fun row => iD (row.getD sn 0)) (fun row _ => tg_name) fun row hro => ev_ixL (ds := row.map iD) sn (ev_var rfl) (ev_var rfl) (getCell (hmem row hro)))) (by rw [List.map_map, List.map_map]; rfl)) ea_nil)) ev_int rd_b) (by rw [natsum_int]; congr 1; exact decide_eq_decide.mpr (by omega)))) (fun w4 r4 hb => ?_) fun w4 r4 hb => ?_
    · have e : listT rs sg.length sn most = none := by
        unfold listT
        rw [hcs, if_pos (of_decide_eq_true hb)]
      exact fun σ s => re (by rw [e]; rfl) w4 (((r1.trans r2).trans r3).trans r4)
    · have hle : (cs.map fun row => row.getD sn 0).sum ≤ 300 := by have := of_decide_eq_false hb; omega
      have e : listT rs sg.length sn most = some ((List.range most).flatMap fun i => treesF rs cs 10 sn (i + 1)) := by
        unfold listT
        rw [hcs, if_neg (by omega)]
      have hcell : ∀ k, k ≤ most → cell cs k sn ≤ 300 := fun k hk => by
        refine Nat.le_trans (KM.le_sum (List.mem_map.mpr ⟨cs.getD k [], ?_, rfl⟩)) hle
        rw [List.getD_eq_getElem?_getD, List.getElem?_eq_getElem (by omega)]
        exact List.getElem_mem _
      have hlen : ∀ i, i < most → (treesF rs cs 10 sn (i + 1)).length ≤ 300 := fun i hi => by
        have := KM.treesF_len (most := most) bk.sg 10 sn (i + 1) (by omega) (by omega) (by omega)
        rw [hcs] at this
        rw [this]
        exact hcell (i + 1) (by omega)
      refine sq_sete ev_nilL fun w5 r5 => ?_
      refine sq_for (S := List KM.T) (js := [5]) (List.range most) (fun i => .int (1 + (i : Int))) (EvI.eq (ei_range2 (ea_conse ev_int (ea_conse (ev_ope (ev_var rfl) ev_int rd_i) ea_nil)) (by omega) (by omega) (by omega) (by omega)) (by congr 2; omega)) ((((r1.trans r2).trans r3).trans r4).trans r5)
        (fun l => [.dat (bD sg rs), .dat (.int (sn : Int)), .dat (.int (most : Int)), .dat (cD cs), .dat (.list (l.map tD)), .no, .no]) (fun l i => l ++ treesF rs cs 10 sn (i + 1)) (fun i l => l.length ≤ i * 300) [] (.same (.same (.same (.same (.same (.no (.no .nil))))))) (by simp) ?_ ?_ ?_
      · intro i l x hx hl
        have hi := (List.getElem?_eq_some_iff.mp hx).1
        rw [List.length_range] at hi
        rw [List.getElem?_range hi] at hx
        obtain rfl : i = x := Option.some.inj hx
        have := hlen i hi
        rw [List.length_append, Nat.succ_mul]
        omega
      · intro i l x w6 G0 hx hl _ r6 x6 x7
        have hi := (List.getElem?_eq_some_iff.mp hx).1
        rw [List.length_range] at hi
        rw [List.getElem?_range hi] at hx
        obtain rfl : i = x := Option.some.inj hx
        have := hlen i hi
        refine ⟨_, tg_name, ?_⟩
        refine on_sete (EvN.eve (ev_catL (ds := l.map tD) (es := (treesF rs cs 10 sn (i + 1)).map tD) (ev_var rfl) (ev_call (ea_conse (ev_var rfl) (ea_conse (ev_var rfl) (ea_conse (ev_var rfl) (ea_conse (EvD.to (ev_var rfl) (e := .int ((i + 1 : Nat) : Int)) (by congr 1; omega)) ea_nil)))) ⟨sg, rs, most, sn, i + 1, hok, hm, by omega, by omega, by omega, by omega, hs, by rw [hcs]; exact hcell (i + 1) (by omega), by rw [hcs], by rw [hcs]⟩) (by rw [List.length_map, List.length_map]; omega))) fun w7 r7 => ?_
        rw [← List.map_append]
        exact on_nx (r6.trans r7) (x7.trans r7.g) (.same (.same (.same (.same (.same (.no (.no .nil)))))))
      · intro w6 _ r6 x6
        rw [foldl_app, List.nil_append]
        exact on_ret r6 (D1 := fun e => e = trD ((List.range most).flatMap fun i => treesF rs cs 10 sn (i + 1))) (ev_var rfl) (rt _ (by rw [e]; rfl))⟩
/-! _law_trees -/
def optD : Option PyData → PyData
  | none => .none
  | some d => d
theorem on_try {ta : TA} {Γ : List De} {w : Wo} {ds : List PyData} {r : Option PyData} {rel : List PyData → Option PyData → Prop} {j : Nat} {E : Ends} {u : TS} (ha : EvAE none ta Γ w ds) (hr : rel ds r) (he : PySem.W.exmOne K (.ref C) (.ref C) = some true)
    (q : ∀ w1, R none w w1 → On none (u E) (Γ.set j (.dat (optD r))) w1) : On none (tSeq (fun D σ H => (tAsg (tCallS (spT C rel) (WE (wOnly K (.ref C) (fun _ _ _ => tAsg (tC .non) (gName j)) (fun _ _ _ _ => False) D)) ta) (gName j)) D σ H) u E) Γ w := fun σ s =>
  ha w σ (R.refl _ _) s _ fun vs w1 r1 ⟨e, h1, hd⟩ => by
    subst h1
    refine ⟨w1, e, r, rfl, hd, hr, fun d hdr v w2 r2 dv => ?_, fun hn w2 r2 => ?_⟩
    · subst hdr
      exact q w2 (r1.trans r2) _ (Sl.set (x := some v) (e := .dat d) ⟨v, rfl, dv⟩ j (s.mono (r1.trans r2)))
    · subst hn
      exact ⟨true, he, fun _ a _ => q w2 (r1.trans r2) _ (Sl.set (x := some .non) (e := .dat .none) ⟨.non, rfl, .non⟩ j (s.mono (r1.trans r2))), fun z => by cases z⟩
def rel__law_trees : List PyData → PyData → Prop := fun ds d => ∃ (sg : List (Nat × Nat)) (rs : List Rl) (most : Nat), BOk sg rs ∧ most ≤ 9 ∧ ds = [bD sg rs, .int (most : Int)] ∧ d = optD ((listT rs sg.length 0 most).map trD)
theorem c__law_trees (T : Txt P wd K mg dW) (X : TxtE K mg C) : C8.Cal P wd K mg base 18 "_law_trees" (spD rel__law_trees) [] := by
  obtain ⟨fT, fdT, FT, mT, kT, bT⟩ := (c_trees_to (P := P) (wd := wd) (base := base) T X).ex
  exact cal_D T.d__law_trees sc__law_trees (fun ds d ⟨_, _, _, _, _, h, _⟩ => by rw [h]; rfl) fun f cdv A outer s H E hr => ⟨_, (pss_cons (ps_set (i := 2) sc__law_trees.nd rfl (Or.inl rfl) pe_non)
      (pss_cons (ps_try_only (tb := fun W => tAsg (tCallS (spT C rel_trees_to) (WE W) (tCons (tVar 0) (tCons (tC (.int 0)) (tCons (tVar 1) tNil)))) (gName 2)) (ts := fun _ _ _ => tAsg (tC .non) (gName 2)) (Wout := fun _ _ _ _ => False) rfl rfl ⟨rfl, by decide, Or.inl X.gC⟩ takes0 (fun W pn xe tk _ => pss_one (ps_set (i := 2) sc__law_trees.nd rfl (Or.inl rfl) (by exact (pe_callS FT hr rfl mT kT bT (fun σ => passAt tk σ) (by exact (pa_cons (pv 0) (pa_cons pe_int (pa_cons (pv 1) pa_nil)))))))) (fun a oe cls d pn hz hf => pss_one (ps_set (i := 2) sc__law_trees.nd rfl (Or.inl rfl) pe_non)))
      (pss_one (ps_ret (pv 2))))), fun w Q ds d ⟨sg, rs, most, hok, hm, h1, h2⟩ rt => by
    subst h1 h2
    refine sq_sete ev_non fun w1 r1 => ?_
    refine on_try (rel := rel_trees_to) (r := (listT rs sg.length 0 most).map trD) (ea_conse (ev_var rfl) (ea_conse ev_int (ea_conse (ev_var rfl) ea_nil))) ⟨sg, rs, 0, most, hok, by have := hok.s.l1; omega, hm, rfl, rfl⟩ X.eC fun w2 r2 => ?_
    exact on_ret (r1.trans r2) (D1 := fun e => e = optD ((listT rs sg.length 0 most).map trD)) (ev_var rfl) rt⟩
end
end U
end

section
set_option maxRecDepth 100000
set_option maxHeartbeats 4000000
/-! The law's own defs: numbers, places. -/
namespace U
open PySem PySem.Spec PyProof.Rows L2 HT2
def mixN (c k : Int) : Int :=
  let n := (c % 2147483647 * 48271 + k * 69621 + 1048583) % 2147483629
  let m := n * n % 2147483587
  m * (m + 2) % 2147483579
theorem mix_lt (c k : Int) : 0 ≤ mixN c k ∧ mixN c k < 2147483579 := ⟨Int.emod_nonneg _ (by decide), Int.emod_lt_of_pos _ (by decide)⟩
def foldC (c k : Int) : Nat → Int
  | 0 => 0
  | j + 1 => foldC c k j * 2147483579 + mixN c (7 * k + 100 * (j : Int) + (j : Int) * (j : Int))
theorem foldC_lt (c k : Int) : ∀ j : Nat, 0 ≤ foldC c k j ∧ (foldC c k j).natAbs < 2 ^ (31 * j + 1)
  | 0 => by simp [foldC]
  | j + 1 => by
    obtain ⟨a, b⟩ := foldC_lt c k j
    obtain ⟨d, e⟩ := mix_lt c (7 * k + 100 * (j : Int) + (j : Int) * (j : Int))
    have h1 : 0 ≤ foldC c k (j + 1) := by unfold foldC; omega
    refine ⟨h1, ?_⟩
    have h2 : (2 : Nat) ^ (31 * (j + 1) + 1) = 2 ^ (31 * j + 1) * 2147483648 := by
      rw [show 31 * (j + 1) + 1 = (31 * j + 1) + 31 by omega, Nat.pow_add]
    rw [h2]
    generalize 2 ^ (31 * j + 1) = z at b
    have h3 : foldC c k (j + 1) = foldC c k j * 2147483579 + mixN c (7 * k + 100 * (j : Int) + (j : Int) * (j : Int)) := rfl
    omega
def cellN (ns : List Int) (k : Nat) : Int := if (10 : Int) ^ 18 ≤ ns.getD k 0 then (ns.getD k 0 - 10 ^ 18) % (10 ^ 60 * 10 ^ 60 * 10 ^ 60 * 10 ^ 60) else foldC (ns.getD k 0) k 24
theorem cellN_nn (ns : List Int) (k : Nat) : 0 ≤ cellN ns k := by
  unfold cellN
  split
  · exact Int.emod_nonneg _ (by decide +kernel)
  · exact (foldC_lt _ _ 24).1
/-- all places a formula may name -/
def allN (sg : List (Nat × Nat)) (sign : Nat) (parts : List Nat) : List (Nat × Nat) :=
  (sign :: parts).zipIdx.foldl (fun l q => l ++ (List.range ((sg.getD q.1 (0, 0)).1 + (sg.getD q.1 (0, 0)).2)).map fun k => (q.2, k)) []
def namesN (sg : List (Nat × Nat)) (sign : Nat) (parts : List Nat) (free : Bool) : List (Nat × Nat) :=
  if free = true then allN sg sign parts else (allN sg sign parts).filter fun q => !decide (q ∈ toldN sg sign parts)
theorem allN_wop {sg : List (Nat × Nat)} {sign : Nat} {parts : List Nat} : ∀ q ∈ allN sg sign parts, q.2 < wop sg sign parts q.1 := by
  intro q hq
  unfold allN at hq
  rw [foldl_app, List.nil_append] at hq
  obtain ⟨z, hz, hq⟩ := List.mem_flatMap.mp hq
  obtain ⟨k, hk, rfl⟩ := List.mem_map.mp hq
  have hz := List.mem_zipIdx_iff_getElem?.mp hz
  unfold wop
  rw [hz]
  exact List.mem_range.mp hk
theorem allN_len {sg : List (Nat × Nat)} (h : SgOk sg) (sign : Nat) {parts : List Nat} (hp : parts.length ≤ 2) : (allN sg sign parts).length ≤ 12 := by
  have a := foldl_app_len (fun q : Nat × Nat => (List.range ((sg.getD q.1 (0, 0)).1 + (sg.getD q.1 (0, 0)).2)).map fun k => (q.2, k)) 4 (sign :: parts).zipIdx [] (fun x _ => by
    rw [List.length_map, List.length_range]; have := h.at x.1; omega)
  rw [List.length_zipIdx, List.length_cons] at a
  unfold allN
  simp at a ⊢
  omega
theorem namesN_wop {sg : List (Nat × Nat)} {sign : Nat} {parts : List Nat} {free : Bool} : ∀ q ∈ namesN sg sign parts free, q.2 < wop sg sign parts q.1 := by
  intro q hq
  unfold namesN at hq
  split at hq
  · exact allN_wop q hq
  · exact allN_wop q (List.mem_filter.mp hq).1
theorem namesN_len {sg : List (Nat × Nat)} (h : SgOk sg) (sign : Nat) {parts : List Nat} (hp : parts.length ≤ 2) (free : Bool) : (namesN sg sign parts free).length ≤ 12 := by
  unfold namesN
  split
  · exact allN_len h sign hp
  · exact Nat.le_trans (List.length_filter_le _ _) (allN_len h sign hp)
theorem eqv_P (p q : Nat × Nat) : PyData.eqv (pD p) (pD q) = decide (p = q) := by
  obtain ⟨a, b⟩ := p
  obtain ⟨a', b'⟩ := q
  have h : PyData.eqv (pD (a, b)) (pD (a', b')) = (PyData.eqv (.int (a : Int)) (.int (a' : Int)) && (PyData.eqv (.int (b : Int)) (.int (b' : Int)) && true)) := by simp only [pD, PyData.eqv, PyData.eqvAll]
  rw [h, int_eqv, int_eqv]
  by_cases h1 : a = a' <;> by_cases h2 : b = b' <;> simp [h1, h2] <;> omega
theorem lay_P : ∀ l : List (Nat × Nat), PyData.canLayAll0 (l.map pD) = true ∧ PyData.depthAll (l.map pD) ≤ 1
  | [] => by simp [PyData.canLayAll0, PyData.depthAll]
  | p :: l => by
    have := lay_P l
    simp [PyData.canLayAll0, PyData.depthAll, pD, PyData.canLay0, PyData.depth, this]
theorem sh_P (p : Nat × Nat) : SeqAt.shaped (pD p) = true := shaped_of (by simp [pD, PyData.canLay0, PyData.canLayAll0]) (by simp [pD, PyData.depth, PyData.depthAll])
theorem sh_Ps (l : List (Nat × Nat)) : SeqAt.shaped (.list (l.map pD)) = true := shaped_of (by simp only [PyData.canLay0]; exact (lay_P l).1) (by simp only [PyData.depth]; have := (lay_P l).2; omega)
theorem any_P (q : Nat × Nat) : ∀ l : List (Nat × Nat), ((l.map pD).any fun z => PyData.eqv z (pD q)) = decide (q ∈ l)
  | [] => rfl
  | p :: l => by
    rw [List.map_cons, List.any_cons, any_P q l, eqv_P]
    by_cases h : p = q
    · subst h; simp
    · have : ¬ q = p := fun e => h e.symm
      simp [h, this]
section
variable {P : Program} {wd : World} {K : PySem.W.Frag} {mg : Str → Option Value} {base : Heap} {dW C : Addr}
theorem mulW {i j : Int} (a b : Nat) (ha : i.natAbs < 2 ^ a) (hb : j.natAbs < 2 ^ b) (h : 0 < a ∧ 0 < b ∧ a + b ≤ 1000000) : CMulW i j := wide_mul ha hb h.1 h.2.1 h.2.2
/-! _law_mixed -/
def rel__law_mixed : List PyData → PyData → Prop := fun ds d => ∃ c k : Int, k.natAbs < 1000000 ∧ ds = [.int c, .int k] ∧ d = .int (mixN c k)
theorem c__law_mixed (T : Txt P wd K mg dW) : C8.Cal P wd K mg base 1 "_law_mixed" (spD rel__law_mixed) [] :=
  cal_D T.d__law_mixed sc__law_mixed (fun ds d ⟨_, _, _, h, _⟩ => by rw [h]; rfl) fun f cdv A outer s H E hr => ⟨_, (pss_cons (ps_set (i := 2) sc__law_mixed.nd rfl (Or.inl rfl) (pe_op op_mod (pe_op op_add (pe_op op_add (pe_op op_mulW (pe_op op_mod (pv 0) pe_int) pe_int) (pe_op op_mulW (pv 1) pe_int)) pe_int) pe_int))
      (pss_cons (ps_set (i := 2) sc__law_mixed.nd rfl (Or.inl rfl) (pe_op op_mod (pe_op op_mulW (pv 2) (pv 2)) pe_int))
      (pss_one (ps_ret (pe_op op_mod (pe_op op_mulW (pv 2) (pe_op op_add (pv 2) pe_int)) pe_int))))), fun w Q ds d ⟨c, k, hk, h1, h2⟩ rt => by
    subst h1 h2
    refine sq_sete (d := .int ((c % 2147483647 * 48271 + k * 69621 + 1048583) % 2147483629)) (ev_ope (ev_ope (ev_ope (ev_ope (ev_ope (ev_var rfl) ev_int (rd_ic (C := fun _ j => 0 < j) (g := fun i j => i % j) (by decide))) ev_int (rd_ic (C := CMulW) (g := fun i j => i * j) (mulW 31 16 (by omega) (by decide) (by decide)))) (ev_ope (ev_var rfl) ev_int (rd_ic (C := CMulW) (g := fun i j => i * j) (mulW 31 17 (by omega) (by decide) (by decide)))) rd_i) ev_int rd_i) ev_int (rd_ic (C := fun _ j => 0 < j) (g := fun i j => i % j) (by decide))) fun w1 r1 => ?_
    generalize hn : (c % 2147483647 * 48271 + k * 69621 + 1048583) % 2147483629 = n
    have hn2 : n.natAbs < 2 ^ 31 := by omega
    refine sq_sete (d := .int (n * n % 2147483587)) (ev_ope (ev_ope (ev_var rfl) (ev_var rfl) (rd_ic (C := CMulW) (g := fun i j => i * j) (mulW 31 31 hn2 hn2 (by decide)))) ev_int (rd_ic (C := fun _ j => 0 < j) (g := fun i j => i % j) (by decide))) fun w2 r2 => ?_
    have e : mixN c k = n * n % 2147483587 * (n * n % 2147483587 + 2) % 2147483579 := by rw [← hn]; rfl
    rw [e] at rt
    have hm : (n * n % 2147483587).natAbs < 2 ^ 31 := by
      have a := Int.emod_nonneg (n * n) (b := 2147483587) (by decide)
      have b := Int.emod_lt_of_pos (n * n) (b := 2147483587) (by decide)
      omega
    generalize n * n % 2147483587 = m at rt hm ⊢
    exact on_ret (r1.trans r2) (D1 := fun e => e = .int (m * (m + 2) % 2147483579)) (ev_ope (ev_ope (ev_var rfl) (ev_ope (ev_var rfl) ev_int rd_i) (rd_ic (C := CMulW) (g := fun i j => i * j) (mulW 31 32 hm (by omega) (by decide)))) ev_int (rd_ic (C := fun _ j => 0 < j) (g := fun i j => i % j) (by decide))) rt⟩
/-! _law_cell -/
def pre__law_cell : List Int → List PyData → Prop := fun ns ds => ∃ k : Nat, ns.length ≤ 63 ∧ k ≤ 100 ∧ ds = [.int (k : Int)]
def rel__law_cell : List Int → List PyData → PyData → Prop := fun ns ds d => ∀ k : Nat, ds = [.int (k : Int)] → d = .int (cellN ns k)
theorem c__law_cell (T : Txt P wd K mg dW) : C8.Cal P wd K mg base 2 "_law_cell" (spR K pre__law_cell rel__law_cell) [] :=
  have c__law_mixed := c__law_mixed (P := P) (base := base) T
  cal_R T.d__law_cell sc__law_cell (fun ns ds ⟨_, _, _, h⟩ => by rw [h]; rfl) fun f cdv A outer s H E hr => ⟨_, (pss_cons (ps_set (i := 2) sc__law_cell.nd rfl (Or.inl rfl) pe_int)
      (pss_cons (ps_if (pt_cmpR op_lt (pv 1) (pe_callB (r := rLen K) call_len_seq (by rfl) T.len PySem.boot_len (pa_cons (pv 0) pa_nil)) (nomark _)) (pss_one (ps_set (i := 2) sc__law_cell.nd rfl (Or.inl rfl) (pe_ix (r := rIxL K) ix_list (pv 0) (pv 1) (fun _ _ => rfl)))) pss_nil)
      (pss_cons (ps_if (pt_cmpR op_ge (pv 2) (pe_op op_pow pe_int pe_int) (nomark _)) (pss_one (ps_ret (pe_op op_mod (pe_op op_sub (pv 2) (pe_op op_pow pe_int pe_int)) (pe_op op_mulW (pe_op op_mulW (pe_op op_mulW (pe_op op_pow pe_int pe_int) (pe_op op_pow pe_int pe_int)) (pe_op op_pow pe_int pe_int)) (pe_op op_pow pe_int pe_int))))) pss_nil)
      (pss_cons (ps_set (i := 3) sc__law_cell.nd rfl (Or.inl rfl) pe_int)
      (pss_cons (ps_for PassesOwn.never rfl (pi_range1 (by rfl) T.range (pa_cons pe_int pa_nil)) (pg_name (i := 4) sc__law_cell.nd rfl (Or.inl rfl)) (pss_one (ps_set (i := 3) sc__law_cell.nd rfl (Or.inl rfl) (pe_op op_add (pe_op op_mulW (pv 3) pe_int) (C8.pe_c c__law_mixed hr (by omega) (by rfl) (pa_cons (pv 2) (pa_cons (pe_op op_add (pe_op op_add (pe_op op_mulW pe_int (pv 1)) (pe_op op_mulW pe_int (pv 4))) (pe_op op_mulW (pv 4) (pv 4))) pa_nil)))))))
      (pss_one (ps_ret (pv 3)))))))), fun w a ns Q ds ⟨k, hl, hk, h1⟩ hS rt0 => by
    subst h1
    have rt : Rt none w (fun e => e = .int (cellN ns k)) Q := fun v w' r ⟨d, h1, h2⟩ => rt0 v w' r ⟨d, fun k' e => by
      have e2 : (k : Int) = (k' : Int) := by simpa using e
      have e3 : k = k' := by omega
      rw [h1, e3], h2⟩
    refine sq_sete ev_int fun w1 r1 => ?_
    refine sq_ifJ (Γm := [.raw (.ref a), .dat (.int (k : Int)), .dat (.int (ns.getD k 0)), .no, .no]) (b := decide ((k : Int) < (ns.length : Int))) (et_test (ev_ope (ev_var rfl) (ev_scrLen (hS.mono r1) rfl) rd_b)) (fun E' hk w2 r2 hb => ?_) (fun E' hk w2 r2 hb => ?_) fun w2 r2 => ?_
    · have hlt : k < ns.length := by have := of_decide_eq_true hb; omega
      exact on_sete (d := .int (ns.getD k 0)) (ev_scrIx (j := k) (hS.mono (r1.trans r2)) rfl (ev_var rfl) (by rw [List.getD_eq_getElem?_getD, List.getElem?_eq_getElem hlt]; rfl)) fun w3 r3 => hk w3 (r2.trans r3)
    · have hge : ns.length ≤ k := by have := of_decide_eq_false hb; omega
      have e : ns.getD k 0 = 0 := by rw [List.getD_eq_getElem?_getD, List.getElem?_eq_none hge]; rfl
      have := hk w2 r2
      rw [e] at this
      exact on_next this
    · have hR := r1.trans r2
      refine sq_if (b := decide ((10 : Int) ^ 18 ≤ ns.getD k 0)) (et_test (ev_ope (ev_var rfl) (ev_pow (k := 10 ^ 18) (by decide) (by decide) (by decide) rfl) rd_b)) (fun w3 r3 hb => ?_) fun w3 r3 hb => ?_
      · refine on_ret (hR.trans r3) (D1 := fun e => e = .int (cellN ns k)) ?_ rt
        have hp : EvE none (tOp (rI CPow fun i j => .int (i ^ j.toNat)) (tC (.int 10)) (tC (.int 60))) [.raw (.ref a), .dat (.int (k : Int)), .dat (.int (ns.getD k 0)), .no, .no] w3 (.int (10 ^ 60)) := ev_pow (by decide) (by decide) (by decide) rfl
        refine EvD.to (ev_ope (ev_ope (ev_var rfl) (ev_pow (k := 10 ^ 18) (by decide) (by decide) (by decide) rfl) rd_i) (ev_ope (ev_ope (ev_ope hp hp (rd_ic (C := CMulW) (g := fun i j => i * j) (mulW 200 200 (by decide +kernel) (by decide +kernel) (by decide)))) hp (rd_ic (C := CMulW) (g := fun i j => i * j) (mulW 400 200 (by decide +kernel) (by decide +kernel) (by decide)))) hp (rd_ic (C := CMulW) (g := fun i j => i * j) (mulW 600 200 (by decide +kernel) (by decide +kernel) (by decide)))) (rd_ic (C := fun _ j => 0 < j) (g := fun i j => i % j) (by decide +kernel))) ?_
        unfold cellN
        rw [if_pos (of_decide_eq_true hb)]
      · refine sq_sete ev_int fun w4 r4 => ?_
        refine sq_for (S := Int) (js := [4]) (List.range 24) (fun (i : Nat) => .int (i : Int)) (ei_range1 (n := 24) (ea_conse ev_int ea_nil) (by decide)) ((hR.trans r3).trans r4)
          (fun z => [.raw (.ref a), .dat (.int (k : Int)), .dat (.int (ns.getD k 0)), .dat (.int z), .no]) (fun z (j : Nat) => z * 2147483579 + mixN (ns.getD k 0) (7 * (k : Int) + 100 * (j : Int) + (j : Int) * (j : Int))) (fun i z => z = foldC (ns.getD k 0) k i) 0 (.same (.same (.same (.same (.no .nil))))) rfl ?_ ?_ ?_
        · intro i z x hx e
          have hi := (List.getElem?_eq_some_iff.mp hx).1
          rw [List.length_range] at hi
          rw [List.getElem?_range hi] at hx
          obtain rfl : i = x := Option.some.inj hx
          rw [e]
          rfl
        · intro i z x w5 G0 hx e _ r5 x5 x6
          have hi := (List.getElem?_eq_some_iff.mp hx).1
          rw [List.length_range] at hi
          rw [List.getElem?_range hi] at hx
          obtain rfl : i = x := Option.some.inj hx
          have hz := (foldC_lt (ns.getD k 0) k i).2
          rw [← e] at hz
          have hii : (i : Int) * (i : Int) ≤ 24 * 24 := Int.mul_le_mul (by omega) (by omega) (by omega) (by omega)
          have hii0 : (0 : Int) ≤ (i : Int) * (i : Int) := Int.mul_nonneg (by omega) (by omega)
          refine ⟨_, tg_name, ?_⟩
          refine on_sete (ev_ope (ev_ope (ev_var rfl) ev_int (rd_ic (C := CMulW) (g := fun i j => i * j) (mulW (31 * i + 1) 31 hz (by decide) (by omega)))) (ev_call (ea_conse (ev_var rfl) (ea_conse (ev_ope (ev_ope (ev_ope ev_int (ev_var rfl) (rd_ic (C := CMulW) (g := fun i j => i * j) (mulW 3 7 (by decide) (by omega) (by decide)))) (ev_ope ev_int (ev_var rfl) (rd_ic (C := CMulW) (g := fun i j => i * j) (mulW 7 5 (by decide) (by omega) (by decide)))) rd_i) (ev_ope (ev_var rfl) (ev_var rfl) (rd_ic (C := CMulW) (g := fun i j => i * j) (mulW 5 5 (by omega) (by omega) (by decide)))) rd_i) ea_nil)) ⟨ns.getD k 0, 7 * (k : Int) + 100 * (i : Int) + (i : Int) * (i : Int), by omega, rfl, rfl⟩) rd_i) fun w6 r6 => ?_
          exact on_nx (r5.trans r6) (x6.trans r6.g) (.same (.same (.same (.same (.no .nil)))))
        · intro w5 e r5 x5
          rw [List.length_range] at e
          rw [e]
          refine on_ret r5 (D1 := fun e => e = .int (cellN ns k)) (EvD.to (ev_var rfl) ?_) rt
          unfold cellN
          rw [if_neg (of_decide_eq_false hb)]⟩
/-- a cell of the script -/
theorem ev_cell {X : XK} {Γ : List De} {w : Wo} {te : TE} {i k : Nat} {a : Addr} {ns : List Int} (hS : Scr K w a ns) (hn : ns.length ≤ 63) (hi : Γ[i]? = some (.raw (.ref a))) (h : EvE none te Γ w (.int (k : Int))) (hk : k ≤ 100) : EvE none (tCall (spR K pre__law_cell rel__law_cell) [] X (tCons (tVar i) (tCons te tNil))) Γ w (.int (cellN ns k)) :=
  EvD.imp (ev_callR hS hi (ea_conse h ea_nil) ⟨k, hn, hk, rfl⟩) fun d hd => hd k rfl
end
end U
end

section
set_option maxRecDepth 100000
set_option maxHeartbeats 4000000
/-! The law's own defs: digits, formulas. -/
namespace U
open PySem PySem.Spec PyProof.Rows L2 HT2
section
variable {P : Program} {wd : World} {K : PySem.W.Frag} {mg : Str → Option Value} {base : Heap} {dW C : Addr}
/-! _law_take -/
def isDig (m : Nat) (d : PyData) : Prop := ∃ r : Nat, r < m ∧ d = .int (r : Int)
def pre__law_take : List PyData → Prop := fun ds => ∃ m : Nat, 1 ≤ m ∧ m ≤ 1000 ∧ ds = [.int (m : Int)]
def rel__law_take : List PyData → PyData → Prop := fun ds d => ∀ m : Nat, 1 ≤ m → ds = [.int (m : Int)] → isDig m d
theorem c__law_take (T : Txt P wd K mg dW) : C8.Cal P wd K mg base 1 "_law_take" (spP pre__law_take rel__law_take) [] :=
  cal_P T.d__law_take sc__law_take (fun ds ⟨_, _, _, h⟩ => by rw [h]; rfl) fun f cdv A outer s H E hr => ⟨_, (pss_cons (ps_set (i := 2) sc__law_take.nd rfl (Or.inl rfl) (pe_op op_mod (pe_ix (r := rIxL K) ix_list (pv 0) pe_int (fun _ _ => rfl)) (pv 1)))
      (pss_cons (ps_asg (pe_op op_fdiv (pe_ix (r := rIxL K) ix_list (pv 0) pe_int (fun _ _ => rfl)) (pv 1)) (pg_sub (pv 0) pe_int set_list))
      (pss_one (ps_ret (pv 2))))), fun w a Q ds ⟨m, h1, h2, h3⟩ hp rt => by
    subst h3
    have hp' : ∀ {w1 : Wo}, R (some a) w w1 → PileOk a w1 := fun r => r.p a rfl hp
    refine sq_set (D1 := isDig m) (ev_op (ev_pile hp rfl) (ev_var rfl) fun d e ⟨n, hn, hd⟩ he => ?_) fun d w1 r1 hd => ?_
    · subst hd he
      refine rd_imp (rd_ic (C := fun _ j => 0 < j) (g := fun i j => i % j) (by omega)) fun d hd => ?_
      refine ⟨(n % (m : Int)).toNat, ?_, ?_⟩
      · have a := Int.emod_nonneg n (b := (m : Int)) (by omega)
        have b := Int.emod_lt_of_pos n (b := (m : Int)) (by omega)
        omega
      · rw [hd]
        have a := Int.emod_nonneg n (b := (m : Int)) (by omega)
        congr 1
        omega
    · refine sq_pile r1 (hp' r1) rfl (ev_op (ev_pile (hp' r1) rfl) (ev_var rfl) fun d e ⟨n, hn, hd⟩ he => ?_) fun w2 r2 => ?_
      · subst hd he
        exact rd_imp (rd_ic (C := CDiv) (g := fun i j => i / j) ⟨by omega, by omega⟩) fun d hd => ⟨n / (m : Int), Int.ediv_nonneg hn (by omega), hd⟩
      · refine on_ret r2 (D1 := rel__law_take [.int (m : Int)]) (EvD.imp (ev_var rfl) fun e he => ?_) rt
        intro m' h1' e'
        have e2 : (m : Int) = (m' : Int) := by simpa using e'
        have : m = m' := by omega
        subst this
        rw [he]
        exact hd⟩
/-- a digit off the pile -/
theorem ev_take {a : Addr} {i m : Nat} {Γ : List De} {w : Wo} {te : TE} {X : XK} (hp : PileOk a w) (hi : Γ[i]? = some (.raw (.ref a))) (h1 : 1 ≤ m) (h2 : m ≤ 1000) (h : EvE (some a) te Γ w (.int (m : Int))) : EvD (some a) (tCall (spP pre__law_take rel__law_take) [] X (tCons (tVar i) (tCons te tNil))) Γ w (isDig m) :=
  EvD.imp (ev_callP hp hi (ea_conse h ea_nil) ⟨m, h1, h2, rfl⟩) fun d hd => hd m h1 rfl
/-! _law_told -/
def rel__law_told : List PyData → PyData → Prop := fun ds d => ∃ (sg : List (Nat × Nat)) (sign : Nat) (parts : List Nat), SgOk sg ∧ sign < sg.length ∧ (∀ q ∈ parts, q < sg.length) ∧ parts.length ≤ 2 ∧ ds = [.list (sg.map pD), .int (sign : Int), .tuple (parts.map iD)] ∧ d = .list ((toldN sg sign parts).map pD)
theorem c__law_told (T : Txt P wd K mg dW) : C8.Cal P wd K mg base 1 "_law_told" (spD rel__law_told) [] :=
  cal_D T.d__law_told sc__law_told (fun ds d ⟨_, _, _, _, _, _, _, h, _⟩ => by rw [h]; rfl) fun f cdv A outer s H E hr => ⟨_, (pss_cons (ps_asg (pe_ix (r := rIxL K) ix_list (pv 0) (pv 1) (fun _ _ => rfl)) (pg_tup rfl (pgs_cons (pg_name (i := 3) sc__law_told.nd rfl (Or.inr rfl)) (pgs_cons (pg_name (i := 4) sc__law_told.nd rfl (Or.inl rfl)) pgs_nil))))
      (pss_cons (ps_setLc (i := 5) (own := [("_law_k", 8)]) rfl sc__law_told.nd rfl rfl (sw_true rfl rfl rfl (by decide +kernel)) (pi_range1 (by rfl) T.range (pa_cons (pv 4) pa_nil)) (blkOk_by (own := [("_law_k", 8)]) (N := N__law_told) (sc := defScope s__law_told) (by decide +kernel)) (fun _ _ _ _ _ => (pg_name (i := 8) sc__law_told.nd rfl (Or.inl rfl))) (fun _ _ _ _ _ => pts_nil) (fun _ _ _ _ _ => (pe_tup (pa_cons pe_int (pa_cons (pe_op op_add (pv 3) (pv 8)) pa_nil)))))
      (pss_cons (ps_for PassesOwn.never rfl (pi_enumT (by rfl) T.enumerate (pa_cons (pv 2) pa_nil)) (pg_tup rfl (pgs_cons (pg_name (i := 6) sc__law_told.nd rfl (Or.inr rfl)) (pgs_cons (pg_name (i := 7) sc__law_told.nd rfl (Or.inl rfl)) pgs_nil))) (pss_one (ps_set (i := 5) sc__law_told.nd rfl (Or.inl rfl) (pe_op op_cat (pv 5) (pe_lc (own := [("_law_k", 8)]) rfl sc__law_told.nd (pi_range1 (by rfl) T.range (pa_cons (pe_ix (r := rIxT K) ix_tup (pe_ix (r := rIxL K) ix_list (pv 0) (pv 7) (fun _ _ => rfl)) pe_int (fun _ _ => rfl)) pa_nil)) (blkOk_by (own := [("_law_k", 8)]) (N := N__law_told) (sc := defScope s__law_told) (by decide +kernel)) (fun _ _ _ _ _ => (pg_name (i := 8) sc__law_told.nd rfl (Or.inl rfl))) (fun _ _ _ _ _ => pts_nil) (fun _ _ _ _ _ => (pe_tup (pa_cons (pe_op op_add (pv 6) pe_int) (pa_cons (pv 8) pa_nil)))))))))
      (pss_one (ps_ret (pv 5)))))), fun w Q ds d ⟨sg, sign, parts, hok, hs, hp, hl, h1, h2⟩ rt => by
    subst h1 h2
    have b0 := hok.at sign
    refine sq_asg (ev_ixL sign (ev_var rfl) (ev_var rfl) (getSg hs)) (tg_tup (tgs_cons tg_name (tgs_cons tg_name tgs_nil))) fun w1 r1 => ?_
    refine sq_sete (d := .list (((List.range (sg.getD sign (0, 0)).2).map fun k => (0, (sg.getD sign (0, 0)).1 + k)).map pD)) (EvD.to (EvN.eve (ev_lc (js := [8]) (List.range (sg.getD sign (0, 0)).2) (fun (i : Nat) => .int (i : Int)) (ei_range1 (ea_conse (ev_var rfl) ea_nil) (by omega)) (by rw [List.length_range]; omega) (by simp)
      (fun k => [.dat (.list (sg.map pD)), .dat (.int (sign : Int)), .dat (.tuple (parts.map iD)), .dat (.int ((sg.getD sign (0, 0)).1 : Int)), .dat (.int ((sg.getD sign (0, 0)).2 : Int)), .no, .no, .no, .dat (.int (k : Int))]) (fun k => pD (0, (sg.getD sign (0, 0)).1 + k)) (fun k _ => tg_name) fun k _ => EvD.to (ev_tupe (ea_conse ev_int (ea_conse (ev_ope (ev_var rfl) (ev_var rfl) rd_i) ea_nil)) (by simp)) (by rw [← Int.natCast_add]; rfl))) (by rw [List.map_map]; rfl)) fun w2 r2 => ?_
    refine sq_for (js := [6, 7]) parts.zipIdx (fun q => .tuple [.int (q.2 : Int), iD q.1]) (EvI.eq (ei_enumT (ea_conse (ev_var rfl) ea_nil)) (enum_map iD parts)) (r1.trans r2)
      (fun (l : List (Nat × Nat)) => [.dat (.list (sg.map pD)), .dat (.int (sign : Int)), .dat (.tuple (parts.map iD)), .no, .no, .dat (.list (l.map pD)), .no, .no, .no]) (fun l q => l ++ (List.range (sg.getD q.1 (0, 0)).1).map fun k => (q.2 + 1, k)) (fun i l => l.length ≤ 2 + i * 2)
      ((List.range (sg.getD sign (0, 0)).2).map fun k => (0, (sg.getD sign (0, 0)).1 + k)) (.same (.same (.same (.no (.no (.same (.no (.no (.no .nil))))))))) (by rw [List.length_map, List.length_range]; omega) ?_ ?_ ?_
    · intro i l q hq hi
      rw [List.length_append, List.length_map, List.length_range]
      have := (hok.at q.1).1
      omega
    · intro i l q w' G0 hq hi _ r0 x1 x2
      have hqm : q.1 < sg.length := hp _ (by
        have := List.mem_of_getElem? hq
        rw [List.mem_zipIdx_iff_getElem?] at this
        exact List.mem_of_getElem? this)
      have hi2 : i < 2 := by
        have := (List.getElem?_eq_some_iff.mp hq).1
        rw [List.length_zipIdx] at this
        omega
      have b1 := (hok.at q.1).1
      refine ⟨_, tg_tup (tgs_cons tg_name (tgs_cons tg_name tgs_nil)), ?_⟩
      refine on_sete (EvN.eve (ev_catL (ds := l.map pD) (es := ((List.range (sg.getD q.1 (0, 0)).1).map fun k => (q.2 + 1, k)).map pD) (ev_var rfl) (EvD.to (EvN.eve (ev_lc (js := [8]) (List.range (sg.getD q.1 (0, 0)).1) (fun (i : Nat) => .int (i : Int)) (ei_range1 (ea_conse (ev_ixT 0 (ds := [.int ((sg.getD q.1 (0, 0)).1 : Int), .int ((sg.getD q.1 (0, 0)).2 : Int)]) (ev_ixL q.1 (ev_var rfl) (ev_var rfl) (getSg hqm)) ev_int rfl) ea_nil) (by omega)) (by rw [List.length_range]; omega) (by simp)
        (fun k => [.dat (.list (sg.map pD)), .dat (.int (sign : Int)), .dat (.tuple (parts.map iD)), .no, .no, .dat (.list (l.map pD)), .dat (.int (q.2 : Int)), .dat (.int (q.1 : Int)), .dat (.int (k : Int))]) (fun k => pD (q.2 + 1, k)) (fun k _ => tg_name) fun k _ => ev_tupe (ea_conse (ev_ope (ev_var rfl) ev_int rd_i) (ea_conse (ev_var rfl) ea_nil)) (by simp))) (by rw [List.map_map]; rfl)) (by rw [List.length_map, List.length_map, List.length_map, List.length_range]; omega))) fun w3 r3 => ?_
      rw [← List.map_append]
      exact on_nx (r0.trans r3) (x2.trans r3.g) (.same (.same (.same (.no (.no (.same (.no (.no (.no .nil)))))))))
    · intro w' hiv r0 x1
      exact on_ret r0 (D1 := fun e => e = .list ((toldN sg sign parts).map pD)) (ev_var rfl) rt⟩
/-! _law_names -/
def rel__law_names : List PyData → PyData → Prop := fun ds d => ∃ (sg : List (Nat × Nat)) (sign : Nat) (parts : List Nat) (free : Bool), SgOk sg ∧ sign < sg.length ∧ (∀ q ∈ parts, q < sg.length) ∧ parts.length ≤ 2 ∧ ds = [.list (sg.map pD), .int (sign : Int), .tuple (parts.map iD), .bool free] ∧ d = .list ((namesN sg sign parts free).map pD)
theorem c__law_names (T : Txt P wd K mg dW) : C8.Cal P wd K mg base 2 "_law_names" (spD rel__law_names) [] :=
  have c__law_told := c__law_told (P := P) (base := base) T
  cal_D T.d__law_names sc__law_names (fun ds d ⟨_, _, _, _, _, _, _, _, h, _⟩ => by rw [h]; rfl) fun f cdv A outer s H E hr => ⟨_, (pss_cons (ps_set (i := 4) sc__law_names.nd rfl (Or.inl rfl) (pe_lst pa_nil))
      (pss_cons (ps_for PassesOwn.never rfl (pi_enumT (by rfl) T.enumerate (pa_cons (pe_op (r := rCatA K) op_catA (pe_tup (pa_cons (pv 1) pa_nil)) (pv 2)) pa_nil)) (pg_tup rfl (pgs_cons (pg_name (i := 5) sc__law_names.nd rfl (Or.inr rfl)) (pgs_cons (pg_name (i := 6) sc__law_names.nd rfl (Or.inl rfl)) pgs_nil))) (pss_one (ps_set (i := 4) sc__law_names.nd rfl (Or.inl rfl) (pe_op op_cat (pv 4) (pe_lc (own := [("_law_k", 9)]) rfl sc__law_names.nd (pi_range1 (by rfl) T.range (pa_cons (pe_callB (r := rSumT K) (cr_sumT rfl) (by rfl) T.sum (by decide +kernel) (pa_cons (pe_ix (r := rIxL K) ix_list (pv 0) (pv 6) (fun _ _ => rfl)) pa_nil)) pa_nil)) (blkOk_by (own := [("_law_k", 9)]) (N := N__law_names) (sc := defScope s__law_names) (by decide +kernel)) (fun _ _ _ _ _ => (pg_name (i := 9) sc__law_names.nd rfl (Or.inl rfl))) (fun _ _ _ _ _ => pts_nil) (fun _ _ _ _ _ => (pe_tup (pa_cons (pv 5) (pa_cons (pv 9) pa_nil)))))))))
      (pss_cons (ps_if (pt_val (pv 3)) (pss_one (ps_ret (pv 4))) pss_nil)
      (pss_cons (ps_set (i := 7) sc__law_names.nd rfl (Or.inr rfl) (C8.pe_c c__law_told hr (by omega) (by rfl) (pa_cons (pv 0) (pa_cons (pv 1) (pa_cons (pv 2) pa_nil)))))
      (pss_one (ps_ret (pe_lc (own := [("_law_name", 8)]) rfl sc__law_names.nd (pi_list (pv 4)) (blkOk_by (own := [("_law_name", 8)]) (N := N__law_names) (sc := defScope s__law_names) (by decide +kernel)) (fun _ _ _ _ _ => (pg_name (i := 8) sc__law_names.nd rfl (Or.inl rfl))) (fun _ _ _ _ _ => (pts_one (pt_cmpR (r := rNotInD K) (op_notInD (units_lt hr (by decide))) (pv 8) (pv 7) (by rfl)))) (fun _ _ _ _ _ => (pv 8))))))))), fun w Q ds d ⟨sg, sign, parts, free, hok, hs, hp, hl, h1, h2⟩ rt => by
    subst h1 h2
    refine sq_sete ev_nilL fun w1 r1 => ?_
    refine sq_for (js := [5, 6]) (sign :: parts).zipIdx (fun q => .tuple [.int (q.2 : Int), iD q.1]) (EvI.eq (ei_enumT (ds := (sign :: parts).map iD) (ea_conse (ev_ope (d := .tuple [.int (sign : Int)]) (e := .tuple (parts.map iD)) (ev_tupe (ea_conse (ev_var rfl) ea_nil) (by simp)) (ev_var rfl) (rd_catT (by simp; omega))) ea_nil)) (enum_map iD (sign :: parts))) r1
      (fun (l : List (Nat × Nat)) => [.dat (.list (sg.map pD)), .dat (.int (sign : Int)), .dat (.tuple (parts.map iD)), .dat (.bool free), .dat (.list (l.map pD)), .no, .no, .no, .no, .no]) (fun l q => l ++ (List.range ((sg.getD q.1 (0, 0)).1 + (sg.getD q.1 (0, 0)).2)).map fun k => (q.2, k)) (fun i l => l.length ≤ i * 4)
      [] (.same (.same (.same (.same (.same (.no (.no (.no (.no (.no .nil)))))))))) (by simp) ?_ ?_ ?_
    · intro i l q hq hi
      rw [List.length_append, List.length_map, List.length_range]
      have := hok.at q.1
      omega
    · intro i l q w' G0 hq hi _ r0 x1 x2
      have hqm : q.1 < sg.length := by
        have := List.mem_of_getElem? hq
        rw [List.mem_zipIdx_iff_getElem?] at this
        have := List.mem_of_getElem? this
        rcases List.mem_cons.mp this with e | e
        · rw [e]; exact hs
        · exact hp _ e
      have hi2 : i < 3 := by
        have := (List.getElem?_eq_some_iff.mp hq).1
        rw [List.length_zipIdx, List.length_cons] at this
        omega
      have b1 := hok.at q.1
      refine ⟨_, tg_tup (tgs_cons tg_name (tgs_cons tg_name tgs_nil)), ?_⟩
      refine on_sete (EvN.eve (ev_catL (ds := l.map pD) (es := ((List.range ((sg.getD q.1 (0, 0)).1 + (sg.getD q.1 (0, 0)).2)).map fun k => (q.2, k)).map pD) (ev_var rfl) (EvD.to (EvN.eve (ev_lc (js := [9]) (List.range ((sg.getD q.1 (0, 0)).1 + (sg.getD q.1 (0, 0)).2)) (fun (i : Nat) => .int (i : Int)) (ei_range1 (ea_conse (EvD.to (ev_sumT (ns := [((sg.getD q.1 (0, 0)).1 : Int), ((sg.getD q.1 (0, 0)).2 : Int)]) (ea_conse (ev_ixL q.1 (ev_var rfl) (ev_var rfl) (getSg hqm)) ea_nil)) (by simp)) ea_nil) (by omega)) (by rw [List.length_range]; omega) (by simp)
        (fun k => [.dat (.list (sg.map pD)), .dat (.int (sign : Int)), .dat (.tuple (parts.map iD)), .dat (.bool free), .dat (.list (l.map pD)), .dat (.int (q.2 : Int)), .dat (.int (q.1 : Int)), .no, .no, .dat (.int (k : Int))]) (fun k => pD (q.2, k)) (fun k _ => tg_name) fun k _ => ev_tupe (ea_conse (ev_var rfl) (ea_conse (ev_var rfl) ea_nil)) (by simp))) (by rw [List.map_map]; rfl)) (by rw [List.length_map, List.length_map, List.length_map, List.length_range]; omega))) fun w3 r3 => ?_
      rw [← List.map_append]
      exact on_nx (r0.trans r3) (x2.trans r3.g) (.same (.same (.same (.same (.same (.no (.no (.no (.no (.no .nil))))))))))
    · intro w' hiv r0 x1
      refine sq_if (b := free) (et_B (ev_var rfl)) (fun w2 r2 hb => ?_) fun w2 r2 hb => ?_
      · subst hb
        exact on_ret (r0.trans r2) (D1 := fun e => e = .list ((namesN sg sign parts true).map pD)) (ev_var rfl) rt
      · subst hb
        refine sq_sete (ev_call (ea_conse (ev_var rfl) (ea_conse (ev_var rfl) (ea_conse (ev_var rfl) ea_nil))) ⟨sg, sign, parts, hok, hs, hp, hl, rfl, rfl⟩) fun w3 r3 => ?_
        refine on_ret ((r0.trans r2).trans r3) (D1 := fun e => e = .list ((namesN sg sign parts false).map pD)) ?_ rt
        have hal := allN_len hok sign hl
        exact EvN.eve (ev_lcT (js := [8]) (allN sg sign parts) pD (ei_list (ev_var rfl)) (by omega) (by simp)
          (fun q => [.dat (.list (sg.map pD)), .dat (.int (sign : Int)), .dat (.tuple (parts.map iD)), .dat (.bool false), .dat (.list ((allN sg sign parts).map pD)), .no, .no, .dat (.list ((toldN sg sign parts).map pD)), .dat (pD q), .no]) (fun q => !decide (q ∈ toldN sg sign parts)) pD (fun q _ => tg_name) (fun q _ => et_test (EvD.to (ev_ope (ev_var rfl) (ev_var rfl) (rd_nin (sh_P q) (sh_Ps _))) (by rw [any_P]))) fun q _ _ => ev_var rfl)⟩
end
end U
end

section
set_option maxRecDepth 100000
set_option maxHeartbeats 4000000
/-! The law's own defs: a formula, a rule. -/
namespace U
open PySem PySem.Spec PyProof.Rows L2 HT2
/-- a formula of h floors whose places are among l -/
def FmIn (h : Nat) (l : List (Nat × Nat)) (d : PyData) : Prop := ∃ s ns, Fm h d s ns ∧ ∀ q ∈ ns, q ∈ l
theorem f2_fms {h : Nat} {l : List (Nat × Nat)} : ∀ {xs : List Nat} {ds : List PyData}, F2 (fun _ d => FmIn h l d) xs ds → ∃ s ns, Fms h ds s ns ∧ ∀ q ∈ ns, q ∈ l
  | _, _, .nil => ⟨0, [], .nil, by simp⟩
  | _, _, .cons ⟨s, ns, a, b⟩ c => by
    obtain ⟨t, ms, d, e⟩ := f2_fms c
    exact ⟨s + t, ns ++ ms, .cons a d, fun q hq => by
      rcases List.mem_append.mp hq with hq | hq
      · exact b q hq
      · exact e q hq⟩
/-- a word of two or three inner formulas, or one with a number -/
inductive Kd : Str → Nat → Prop
  | plain {x : Str} {m : Nat} : Wd x [] m [] → (x == ("times" : Str)) = false → (x == ("rest" : Str)) = false → Kd x m
  | times : Kd "times" 1
  | rest : Kd "rest" 1
theorem kd_of (j : Nat) (h : j < 7) : ∃ (x : Str) (m : Nat), [PyData.str "sum", .str "less", .str "least", .str "greatest", .str "times", .str "rest", .str "pick"][j]? = some (.str x) ∧ [PyData.int 2, .int 2, .int 2, .int 2, .int 1, .int 1, .int 3][j]? = some (.int (m : Int)) ∧ m ≤ 3 ∧ Kd x m := by
  match j, h with
  | 0, _ => exact ⟨_, 2, rfl, rfl, by omega, .plain .sum (by decide +kernel) (by decide +kernel)⟩
  | 1, _ => exact ⟨_, 2, rfl, rfl, by omega, .plain .less (by decide +kernel) (by decide +kernel)⟩
  | 2, _ => exact ⟨_, 2, rfl, rfl, by omega, .plain .least (by decide +kernel) (by decide +kernel)⟩
  | 3, _ => exact ⟨_, 2, rfl, rfl, by omega, .plain .greatest (by decide +kernel) (by decide +kernel)⟩
  | 4, _ => exact ⟨_, 1, rfl, rfl, by omega, .times⟩
  | 5, _ => exact ⟨_, 1, rfl, rfl, by omega, .rest⟩
  | 6, _ => exact ⟨_, 3, rfl, rfl, by omega, .plain .pick (by decide +kernel) (by decide +kernel)⟩
  | j + 7, h => omega
theorem Kd.ok {x : Str} {m : Nat} (h : Kd x m) : PyData.strOk x = true := by
  cases h with
  | plain a _ _ => exact a.ok
  | times => decide +kernel
  | rest => decide +kernel
mutual
theorem fm_names : ∀ {h : Nat} {d : PyData} {s : Nat} {ns : List (Nat × Nat)}, Fm h d s ns → ns.length ≤ s
  | _, _, _, _, .mk hw hl hs => by
    have := fms_names hs
    cases hw <;> simp <;> omega
theorem fms_names : ∀ {h : Nat} {d : List PyData} {s : Nat} {ns : List (Nat × Nat)}, Fms h d s ns → ns.length ≤ s
  | _, _, _, _, .nil => by simp
  | _, _, _, _, .cons h1 h2 => by
    have a := fm_names h1
    have b := fms_names h2
    simp
    omega
end
section
variable {P : Program} {wd : World} {K : PySem.W.Frag} {mg : Str → Option Value} {base : Heap} {dW C : Addr}
/-! _law_formula -/
def pre__law_formula (n : Nat) : List PyData → Prop := fun ds => ∃ (l : List (Nat × Nat)) (deep : Nat), deep < n ∧ deep ≤ 2 ∧ l.length ≤ 12 ∧ ds = [.list (l.map pD), .int (deep : Int)]
def rel__law_formula : List PyData → PyData → Prop := fun ds d => ∀ (l : List (Nat × Nat)) (deep : Nat), ds = [.list (l.map pD), .int (deep : Int)] → FmIn (deep + 1) l d
theorem pD_inj {p q : Nat × Nat} (h : pD p = pD q) : p = q := by
  have := eqv_P p q
  rw [h, eqv_P] at this
  simpa using this.symm
theorem pDs_inj : ∀ {l m : List (Nat × Nat)}, l.map pD = m.map pD → l = m
  | [], [], _ => rfl
  | [], _ :: _, h => by simp at h
  | _ :: _, [], h => by simp at h
  | p :: l, q :: m, h => by
    rw [List.map_cons, List.map_cons] at h
    have h := List.cons.inj h
    rw [pD_inj h.1, pDs_inj h.2]
theorem c__law_formula (T : Txt P wd K mg dW) : ∀ n : Nat, C8.Cal P wd K mg base (n + 2) "_law_formula" (spP (pre__law_formula n) rel__law_formula) []
  | 0 => cal_no T.d__law_formula sc__law_formula fun vs H Q E ⟨_, _, _, _, _, _, _, _, ⟨_, _, h, _⟩, _⟩ => by omega
  | n + 1 =>
    have c__law_formula := c__law_formula T n
    have c__law_take := c__law_take (P := P) (base := base) T
    cal_P T.d__law_formula sc__law_formula (fun ds ⟨_, _, _, _, _, h⟩ => by rw [h]; rfl) fun f cdv A outer s H E hr => ⟨_, (pss_cons (ps_set (i := 3) sc__law_formula.nd rfl (Or.inl rfl) (C8.pe_c c__law_take hr (by omega) (by rfl) (pa_cons (pv 0) (pa_cons pe_int pa_nil))))
      (pss_cons (ps_if (PW.pt (pw_or (pt_cmpR (r := rEqD K) (op_eqD hr.units) (pv 2) pe_int (nomark _)) (pw_or1 (pt_cmpR op_lt (pv 3) pe_int (nomark _))))) (pss_cons (ps_if (PW.pt (pw_or (pt_cmpR (r := rEqD K) (op_eqD hr.units) (pv 1) (pe_lst pa_nil) (nomark _)) (pw_or1 (pt_cmpR (r := rEqD K) (op_eqD hr.units) (C8.pe_c c__law_take hr (by omega) (by rfl) (pa_cons (pv 0) (pa_cons pe_int pa_nil))) pe_int (nomark _))))) (pss_one (ps_ret (pe_tup (pa_cons pe_str (pa_cons (pe_op op_sub (C8.pe_c c__law_take hr (by omega) (by rfl) (pa_cons (pv 0) (pa_cons pe_int pa_nil))) pe_int) pa_nil))))) pss_nil)
      (pss_one (ps_ret (pe_op (r := rCatA K) op_catA (pe_tup (pa_cons pe_str pa_nil)) (pe_ix (r := rIxL K) ix_list (pv 1) (C8.pe_c c__law_take hr (by omega) (by rfl) (pa_cons (pv 0) (pa_cons (pe_callB (r := rLen K) call_len_seq (by rfl) T.len PySem.boot_len (pa_cons (pv 1) pa_nil)) pa_nil))) (fun _ _ => rfl)))))) pss_nil)
      (pss_cons (ps_set (i := 4) sc__law_formula.nd rfl (Or.inl rfl) (pe_ix (r := rIxL K) ix_list (pe_lst (pa_cons pe_str (pa_cons pe_str (pa_cons pe_str (pa_cons pe_str (pa_cons pe_str (pa_cons pe_str (pa_cons pe_str pa_nil)))))))) (pe_op op_sub (pv 3) pe_int) (fun _ _ => rfl)))
      (pss_cons (ps_set (i := 5) sc__law_formula.nd rfl (Or.inl rfl) (pe_tupleOf (by rfl) T.tuple (pe_lc (own := [("_law_k", 6)]) rfl sc__law_formula.nd (pi_range1 (by rfl) T.range (pa_cons (pe_ix (r := rIxL K) ix_list (pe_lst (pa_cons pe_int (pa_cons pe_int (pa_cons pe_int (pa_cons pe_int (pa_cons pe_int (pa_cons pe_int (pa_cons pe_int pa_nil)))))))) (pe_op op_sub (pv 3) pe_int) (fun _ _ => rfl)) pa_nil)) (blkOk_by (own := [("_law_k", 6)]) (N := N__law_formula) (sc := defScope s__law_formula) (by decide +kernel)) (fun _ _ _ _ _ => (pg_name (i := 6) sc__law_formula.nd rfl (Or.inl rfl))) (fun _ _ _ _ _ => pts_nil) (fun _ _ _ _ _ => (C8.pe_c c__law_formula hr (by omega) (by rfl) (pa_cons (pv 0) (pa_cons (pv 1) (pa_cons (pe_op op_sub (pv 2) pe_int) pa_nil))))))))
      (pss_cons (ps_if (pt_cmpR (r := rEqD K) (op_eqD hr.units) (pv 4) pe_str (nomark _)) (pss_one (ps_ret (pe_op (r := rCatA K) op_catA (pe_tup (pa_cons (pv 4) (pa_cons (pe_op op_sub (C8.pe_c c__law_take hr (by omega) (by rfl) (pa_cons (pv 0) (pa_cons pe_int pa_nil))) pe_int) pa_nil))) (pv 5)))) pss_nil)
      (pss_cons (ps_if (pt_cmpR (r := rEqD K) (op_eqD hr.units) (pv 4) pe_str (nomark _)) (pss_one (ps_ret (pe_op (r := rCatA K) op_catA (pe_tup (pa_cons (pv 4) (pa_cons (pe_op op_add pe_int (C8.pe_c c__law_take hr (by omega) (by rfl) (pa_cons (pv 0) (pa_cons pe_int pa_nil)))) pa_nil))) (pv 5)))) pss_nil)
      (pss_one (ps_ret (pe_op (r := rCatA K) op_catA (pe_tup (pa_cons (pv 4) pa_nil)) (pv 5)))))))))), fun w a Q ds ⟨l, deep, hn, h2, hl, h3⟩ hp rt => by
      subst h3
      have hp' : ∀ {w1 : Wo}, R (some a) w w1 → PileOk a w1 := fun r => r.p a rfl hp
      have rt' : Rt (some a) w (FmIn (deep + 1) l) Q := fun v w' r ⟨d, h1, h2⟩ => rt v w' r ⟨d, fun l' deep' e => by
        simp at e
        obtain ⟨e1, e2⟩ := e
        have e1 := pDs_inj e1
        subst e1
        have : deep = deep' := by omega
        subst this
        exact h1, h2⟩
      clear rt
      refine sq_set (ev_take (m := 10) hp rfl (by decide) (by decide) ev_int) fun d0 w1 r1 ⟨way, hway, hd0⟩ => ?_
      subst hd0
      refine sq_if (b := decide (deep = 0) || decide (way < 3)) (et_or (et_test (EvD.to (ev_eqI (ev_var rfl) ev_int) (by congr 1; exact decide_eq_decide.mpr (by omega)))) fun _ => et_test (EvD.to (ev_ope (ev_var rfl) ev_int rd_b) (by congr 1; exact decide_eq_decide.mpr (by omega)))) (fun w2 r2 hb => ?_) fun w2 r2 hb => ?_
      · have r12 := r1.trans r2
        refine sq_seqIf (P := fun b => b = false → l.isEmpty = false) ?_ (fun w3 r3 _ => ?_) fun w3 r3 hne => ?_
        · refine et_orP (a := l.isEmpty) (et_test (EvD.to (ev_ope (ev_var rfl) ev_nilL (rd_eq (sh_Ps l) (sh_Ps []))) ?_)) fun _ => ?_
          · cases l <;> simp [PyData.eqv, PyData.eqvAll]
          · refine et_testP (ev_op (ev_take (m := 5) (hp' r12) rfl (by decide) (by decide) ev_int) ev_int fun d e ⟨r, hr, hd⟩ he => ?_)
            subst hd he
            exact rd_imp (rd_eq (int_sh _) (int_sh _)) fun d hd => ⟨_, hd, trivial⟩
        · refine on_ret (r12.trans r3) (D1 := FmIn (deep + 1) l) ?_ rt'
          refine EvD.imp (ev_tup (L1 := fun ds => ∃ n : Int, n.natAbs < 1000000 ∧ ds = [.str "num", .int n]) (EvA.impD (ea_cons (D1 := fun d => d = .str "num") ev_str (ea_cons (D1 := fun d => ∃ n : Int, n.natAbs < 1000000 ∧ d = .int n) (ev_op (ev_take (m := 19) (hp' (r12.trans r3)) rfl (by decide) (by decide) ev_int) ev_int fun d e ⟨r, hr, hd⟩ he => ?_) ea_nil)) ?_) fun ds ⟨_, _, h⟩ => by rw [h]; simp) fun d ⟨ds, h1, n, h2, h3⟩ => ?_
          · subst hd he
            exact rd_imp rd_i fun d hd => ⟨_, by omega, hd⟩
          · rintro ds ⟨d, es, rfl, rfl, d2, es2, rfl, ⟨n, h1, rfl⟩, rfl⟩
            exact ⟨n, h1, rfl⟩
          · subst h1 h3
            exact ⟨1, [], .mk (pre := [.int n]) (bs := []) (.num n h2) rfl .nil, by simp⟩
        · have hle : 1 ≤ l.length := by
            have := hne rfl
            cases l with
            | nil => cases this
            | cons x l => simp
          refine on_ret (r12.trans r3) (D1 := FmIn (deep + 1) l) ?_ rt'
          refine ev_catP (L1 := fun ds => ds = [.str "worth"]) (L2 := fun ds => ∃ q ∈ l, ds = [.int (q.1 : Int), .int (q.2 : Int)]) ?_ ?_ fun ds es h1 ⟨q, hq, h2⟩ => ?_
          · exact EvD.imp (ev_tupe (ea_conse ev_str ea_nil) (by simp)) fun d h => ⟨_, h, rfl⟩
          · refine ev_op (D2 := isDig l.length) (ev_var rfl) (ev_take (hp' (r12.trans r3)) rfl hle (by omega) (ev_lenL (n := l.length) (ev_var rfl) (by simp))) fun d e hd ⟨r, hr, he⟩ => ?_
            subst hd he
            refine rd_imp (rd_ixL (getMap (List.getElem?_eq_getElem hr))) fun d hd => ⟨_, hd, l[r], List.getElem_mem hr, rfl⟩
          · subst h1 h2
            exact ⟨by simp, 1, [q], .mk (pre := [.int (q.1 : Int), .int (q.2 : Int)]) (bs := []) (.worth q.1 q.2) rfl .nil, by simpa using hq⟩
      · have r12 := r1.trans r2
        rw [Bool.or_eq_false_iff, decide_eq_false_iff_not, decide_eq_false_iff_not] at hb
        obtain ⟨x, m, hx, hm, hm3, kd⟩ := kd_of (way - 3) (by omega)
        refine sq_sete (d := .str x) (ev_ixL (way - 3) (EvN.eve ((ev_lst (ea_conse ev_str (ea_conse ev_str (ea_conse ev_str (ea_conse ev_str (ea_conse ev_str (ea_conse ev_str (ea_conse ev_str ea_nil))))))) fun ds h => by rw [h]; simp).imp fun ds h => h)) (EvD.to (ev_ope (ev_var rfl) ev_int rd_i) (by congr 1; omega)) hx) fun w3 r3 => ?_
        have r13 := r12.trans r3
        refine sq_set (D1 := fun d => ∃ ds, d = .tuple ds ∧ ds.length = m ∧ ∃ s ns, Fms deep ds s ns ∧ ∀ q ∈ ns, q ∈ l) (EvD.imp (ev_tupOf (P := fun ds => ∃ n, n = m ∧ F2 (fun _ d => FmIn deep l d) (List.range n) ds) (EvN.ev (ev_lcRng (js := [6]) (N := fun n => n = m) (B := 3) (EvA.impD (ea_cons (D1 := fun d => d = .int (m : Int)) (ev_ixL (way - 3) (EvN.eve ((ev_lst (ea_conse ev_int (ea_conse ev_int (ea_conse ev_int (ea_conse ev_int (ea_conse ev_int (ea_conse ev_int (ea_conse ev_int ea_nil))))))) fun ds h => by rw [h]; simp).imp fun ds h => h)) (EvD.to (ev_ope (ev_var rfl) ev_int rd_i) (by congr 1; omega)) hm) ea_nil) ?_) (fun n h => by omega) (by decide) (by simp)
          (fun k => [.raw (.ref a), .dat (.list (l.map pD)), .dat (.int (deep : Int)), .dat (.int (way : Int)), .dat (.str x), .no, .dat (.int (k : Int))]) (FmIn deep l) (fun k => tg_name) fun k => ?_))) fun d ⟨ds, h1, n, h2, h3⟩ => ?_) fun d w4 r4 ⟨bs, hd, hbl, sz, ns, hfs, hns⟩ => ?_
        · rintro ds ⟨d, es, rfl, rfl, rfl⟩
          exact ⟨m, rfl, rfl⟩
        · refine EvD.imp (ev_callP (hp' r13) rfl (ea_conse (ev_var rfl) (ea_conse (EvD.to (ev_ope (ev_var rfl) ev_int rd_i) (e := .int ((deep - 1 : Nat) : Int)) (by congr 1; omega)) ea_nil)) ⟨l, deep - 1, by omega, by omega, hl, rfl⟩) fun d hd => ?_
          have := hd l (deep - 1) rfl
          rwa [show deep - 1 + 1 = deep by omega] at this
        · subst h2
          refine ⟨ds, h1, by rw [h3.len, List.length_range], f2_fms h3⟩
        · subst hd
          have r14 := r13.trans r4
          cases kd with
          | times =>
            refine sq_ifT (et_test (ev_eqS (by decide +kernel) (by decide +kernel) (ev_var rfl) ev_str)) (by decide +kernel) fun w5 r5 => ?_
            refine on_ret (r14.trans r5) (D1 := FmIn (deep + 1) l) ?_ rt'
            refine ev_catP (L1 := fun ds => ∃ n : Int, n.natAbs < 10000 ∧ ds = [.str "times", .int n]) (L2 := fun ds => ds = bs) ?_ (EvD.imp (ev_var rfl) fun d h => ⟨_, h, rfl⟩) fun ds es ⟨n, h1, h2⟩ h3 => ?_
            · refine ev_tup (EvA.impD (ea_cons (D1 := fun d => d = .str "times") (ev_var rfl) (ea_cons (D1 := fun d => ∃ n : Int, n.natAbs < 10000 ∧ d = .int n) (ev_op (ev_take (m := 7) (hp' (r14.trans r5)) rfl (by decide) (by decide) ev_int) ev_int fun d e ⟨r, hr, hd⟩ he => ?_) ea_nil)) ?_) fun ds ⟨_, _, h⟩ => by rw [h]; simp
              · subst hd he
                exact rd_imp rd_i fun d hd => ⟨_, by omega, hd⟩
              · rintro ds ⟨d, es, rfl, rfl, d2, es2, rfl, ⟨n, h1, rfl⟩, rfl⟩
                exact ⟨n, h1, rfl⟩
            · subst h2 h3
              exact ⟨by simp; omega, sz + 1, _, .mk (pre := [.int n]) (bs := es) (.times n h1) hbl hfs, by simpa using hns⟩
          | rest =>
            refine sq_ifF (et_test (ev_eqS (by decide +kernel) (by decide +kernel) (ev_var rfl) ev_str)) (by decide +kernel) fun w5 r5 => ?_
            refine sq_ifT (et_test (ev_eqS (by decide +kernel) (by decide +kernel) (ev_var rfl) ev_str)) (by decide +kernel) fun w6 r6 => ?_
            have r16 := (r14.trans r5).trans r6
            refine on_ret r16 (D1 := FmIn (deep + 1) l) ?_ rt'
            refine ev_catP (L1 := fun ds => ∃ n : Int, 0 < n ∧ n < 10000 ∧ ds = [.str "rest", .int n]) (L2 := fun ds => ds = bs) ?_ (EvD.imp (ev_var rfl) fun d h => ⟨_, h, rfl⟩) fun ds es ⟨n, h0, h1, h2⟩ h3 => ?_
            · refine ev_tup (EvA.impD (ea_cons (D1 := fun d => d = .str "rest") (ev_var rfl) (ea_cons (D1 := fun d => ∃ n : Int, 0 < n ∧ n < 10000 ∧ d = .int n) (ev_op ev_int (ev_take (m := 7) (hp' r16) rfl (by decide) (by decide) ev_int) fun d e hd ⟨r, hr, he⟩ => ?_) ea_nil)) ?_) fun ds ⟨_, _, _, h⟩ => by rw [h]; simp
              · subst hd he
                exact rd_imp rd_i fun d hd => ⟨_, by omega, by omega, hd⟩
              · rintro ds ⟨d, es, rfl, rfl, d2, es2, rfl, ⟨n, h0, h1, rfl⟩, rfl⟩
                exact ⟨n, h0, h1, rfl⟩
            · subst h2 h3
              exact ⟨by simp; omega, sz + 1, _, .mk (pre := [.int n]) (bs := es) (.rest n h0 h1) hbl hfs, by simpa using hns⟩
          | plain hw n1 n2 =>
            refine sq_ifF (et_test (ev_eqS hw.ok (by decide +kernel) (ev_var rfl) ev_str)) n1 fun w5 r5 => ?_
            refine sq_ifF (et_test (ev_eqS hw.ok (by decide +kernel) (ev_var rfl) ev_str)) n2 fun w6 r6 => ?_
            refine on_ret ((r14.trans r5).trans r6) (D1 := FmIn (deep + 1) l) ?_ rt'
            refine EvD.imp (ev_ope (ev_tupe (ea_conse (ev_var rfl) ea_nil) (by simp)) (ev_var rfl) (rd_catT (by simp; omega))) fun d hd => ?_
            rw [hd]
            exact ⟨sz + 1, _, .mk (pre := []) (bs := bs) hw hbl hfs, by simpa using hns⟩⟩
end
end U
end

section
set_option maxRecDepth 100000
set_option maxHeartbeats 4000000
/-! The law's own defs: a rule, the book. -/
namespace U
open PySem PySem.Spec PyProof.Rows L2 HT2
theorem fmIn_ok {sg : List (Nat × Nat)} {sign : Nat} {parts : List Nat} {free : Bool} {d : PyData} (h : FmIn 3 (namesN sg sign parts free) d) : FmOk sg sign parts d := by
  obtain ⟨s, ns, a, b⟩ := h
  have := fm_names a
  have := fm_size3 a
  exact ⟨s, ns, a, by omega, fun q hq => namesN_wop q (b q hq)⟩
theorem f2_all {α : Type} {P : PyData → Prop} {xs : List α} {ds : List PyData} (h : F2 (fun _ d => P d) xs ds) : ∀ d ∈ ds, P d := by
  induction h with
  | nil => simp
  | cons a _ ih =>
    intro d hd
    rcases List.mem_cons.mp hd with e | hd
    · rw [e]; exact a
    · exact ih d hd
section
variable {P : Program} {wd : World} {K : PySem.W.Frag} {mg : Str → Option Value} {base : Heap} {dW C : Addr}
/-! _law_rule -/
def pre__law_rule : List PyData → Prop := fun ds => ∃ (sg : List (Nat × Nat)) (sign most : Nat) (free : Bool), SgOk sg ∧ sign < sg.length ∧ most ≤ 2 ∧ ds = [.list (sg.map pD), .int (sign : Int), .int (most : Int), .bool free]
def rel__law_rule : List PyData → PyData → Prop := fun ds d => ∀ sg : List (Nat × Nat), ds[0]? = some (.list (sg.map pD)) → ∃ r : Rl, RlOk sg r ∧ d = rD r
theorem c__law_rule (T : Txt P wd K mg dW) : C8.Cal P wd K mg base 6 "_law_rule" (spP pre__law_rule rel__law_rule) [] :=
  have c__law_formula := c__law_formula (P := P) (base := base) T 3
  have c__law_take := c__law_take (P := P) (base := base) T
  have c__law_told := c__law_told (P := P) (base := base) T
  have c__law_names := c__law_names (P := P) (base := base) T
  cal_P T.d__law_rule sc__law_rule (fun ds ⟨_, _, _, _, _, _, _, h⟩ => by rw [h]; rfl) fun f cdv A outer s H E hr => ⟨_, (pss_cons (ps_set (i := 5) sc__law_rule.nd rfl (Or.inl rfl) (pe_tupleOf (by rfl) T.tuple (pe_lc (own := [("_law_k", 7)]) rfl sc__law_rule.nd (pi_range1 (by rfl) T.range (pa_cons (C8.pe_c c__law_take hr (by omega) (by rfl) (pa_cons (pv 0) (pa_cons (pe_op op_add (pv 3) pe_int) pa_nil))) pa_nil)) (blkOk_by (own := [("_law_k", 7)]) (N := N__law_rule) (sc := defScope s__law_rule) (by decide +kernel)) (fun _ _ _ _ _ => (pg_name (i := 7) sc__law_rule.nd rfl (Or.inl rfl))) (fun _ _ _ _ _ => pts_nil) (fun _ _ _ _ _ => (C8.pe_c c__law_take hr (by omega) (by rfl) (pa_cons (pv 0) (pa_cons (pe_callB (r := rLen K) call_len_seq (by rfl) T.len PySem.boot_len (pa_cons (pv 1) pa_nil)) pa_nil)))))))
      (pss_cons (ps_set (i := 6) sc__law_rule.nd rfl (Or.inr rfl) (C8.pe_c c__law_names hr (by omega) (by rfl) (pa_cons (pv 1) (pa_cons (pv 2) (pa_cons (pv 5) (pa_cons (pv 4) pa_nil))))))
      (pss_one (ps_ret (pe_tup (pa_cons (pv 2) (pa_cons (pv 5) (pa_cons (pe_lc (own := [("_law_name", 8)]) rfl sc__law_rule.nd (pi_list (C8.pe_c c__law_told hr (by omega) (by rfl) (pa_cons (pv 1) (pa_cons (pv 2) (pa_cons (pv 5) pa_nil))))) (blkOk_by (own := [("_law_name", 8)]) (N := N__law_rule) (sc := defScope s__law_rule) (by decide +kernel)) (fun _ _ _ _ _ => (pg_name (i := 8) sc__law_rule.nd rfl (Or.inl rfl))) (fun _ _ _ _ _ => pts_nil) (fun _ _ _ _ _ => (C8.pe_c c__law_formula hr (by omega) (by rfl) (pa_cons (pv 0) (pa_cons (pv 6) (pa_cons pe_int pa_nil)))))) pa_nil)))))))), fun w a Q ds ⟨sg, sign, most, free, hok, hs, hm, h3⟩ hp rt => by
    subst h3
    have hp' : ∀ {w1 : Wo}, R (some a) w w1 → PileOk a w1 := fun r => r.p a rfl hp
    have a1 := hok.l1
    have a4 := hok.l4
    have rt' : Rt (some a) w (fun d => ∃ r : Rl, RlOk sg r ∧ d = rD r) Q := fun v w' r ⟨d, ⟨q, h1, h2⟩, h3⟩ => rt v w' r ⟨d, fun sg' e => by
      have e : PyData.list (sg.map pD) = .list (sg'.map pD) := Option.some.inj e
      have e2 := pDs_inj (PyData.list.inj e)
      subst e2
      exact ⟨q, h1, h2⟩, h3⟩
    clear rt
    refine sq_set (D1 := fun d => ∃ parts : List Nat, d = .tuple (parts.map iD) ∧ parts.length ≤ 2 ∧ ∀ q ∈ parts, q < sg.length) (EvD.imp (ev_tupOf (P := fun ds => ∃ n, n ≤ 2 ∧ F2 (fun _ d => isDig sg.length d) (List.range n) ds) (EvN.ev (ev_lcRng (js := [7]) (N := fun n => n ≤ 2) (B := 2) (EvA.impD (ea_cons (D1 := isDig (most + 1)) (ev_take (m := most + 1) hp rfl (by omega) (by omega) (EvD.to (ev_ope (ev_var rfl) ev_int rd_i) (by rw [Int.natCast_add]; rfl))) ea_nil) ?_) (fun n h => h) (by decide) (by simp)
      (fun k => [.raw (.ref a), .dat (.list (sg.map pD)), .dat (.int (sign : Int)), .dat (.int (most : Int)), .dat (.bool free), .no, .no, .dat (.int (k : Int)), .no]) (isDig sg.length) (fun k => tg_name) fun k => ev_take (m := sg.length) hp rfl a1 (by omega) (ev_lenL (n := sg.length) (ev_var rfl) (by simp))))) fun d ⟨ds, h1, n, h2, h3⟩ => ?_) fun d w1 r1 ⟨parts, hd, hpl, hpp⟩ => ?_
    · rintro ds ⟨d, es, rfl, ⟨r, hr, rfl⟩, rfl⟩
      exact ⟨r, rfl, by omega⟩
    · obtain ⟨ns, e1, e2, e3⟩ := f2_dig h3
      rw [List.length_range] at e2
      exact ⟨ns, by rw [h1, e1], by omega, e3⟩
    · subst hd
      refine sq_sete (ev_call (ea_conse (ev_var rfl) (ea_conse (ev_var rfl) (ea_conse (ev_var rfl) (ea_conse (ev_var rfl) ea_nil)))) ⟨sg, sign, parts, free, hok, hs, hpp, hpl, rfl, rfl⟩) fun w2 r2 => ?_
      have r12 := r1.trans r2
      have htl := told_len hok sign hpl
      have hnl := namesN_len hok sign hpl free
      refine on_ret r12 (D1 := fun d => ∃ r : Rl, RlOk sg r ∧ d = rD r) ?_ rt'
      refine EvD.imp (ev_tup (L1 := fun ds => ∃ fs, ds = [.int (sign : Int), .tuple (parts.map iD), .list fs] ∧ F2 (fun _ d => FmIn 3 (namesN sg sign parts free) d) (toldN sg sign parts) fs) (EvA.impD (ea_cons (D1 := fun d => d = .int (sign : Int)) (ev_var rfl) (ea_cons (D1 := fun d => d = .tuple (parts.map iD)) (ev_var rfl) (ea_cons (EvN.ev (ev_lcP (js := [8]) (toldN sg sign parts) pD (ei_list (ev_call (ea_conse (ev_var rfl) (ea_conse (ev_var rfl) (ea_conse (ev_var rfl) ea_nil))) ⟨sg, sign, parts, hok, hs, hpp, hpl, rfl, rfl⟩)) (by omega) (by simp)
        (fun q => [.raw (.ref a), .dat (.list (sg.map pD)), .dat (.int (sign : Int)), .dat (.int (most : Int)), .dat (.bool free), .dat (.tuple (parts.map iD)), .dat (.list ((namesN sg sign parts free).map pD)), .no, .dat (pD q)]) (fun _ => true) (fun _ d => FmIn 3 (namesN sg sign parts free) d) (fun q _ => tg_name) (fun _ _ => et_yes) fun q _ _ => EvD.imp (ev_callP (hp' r12) rfl (ea_conse (ev_var rfl) (ea_conse ev_int ea_nil)) ⟨namesN sg sign parts free, 2, by omega, by omega, hnl, rfl⟩) fun d hd => hd _ 2 rfl)) ea_nil))) ?_) fun ds ⟨fs, h, _⟩ => by rw [h]; simp) fun d ⟨ds, h1, fs, h2, h3⟩ => ?_
      · rintro ds ⟨d, es, rfl, rfl, d2, es2, rfl, rfl, d3, es3, rfl, ⟨fs, rfl, hfs⟩, rfl⟩
        rw [List.filter_eq_self.mpr fun _ _ => rfl] at hfs
        exact ⟨fs, rfl, hfs⟩
      · subst h1 h2
        exact ⟨⟨sign, parts, fs⟩, ⟨hs, hpl, hpp, h3.len, fun d hd => fmIn_ok (f2_all h3 d hd)⟩, rfl⟩⟩
/-! _law_book -/
def pre__law_book : List Int → List PyData → Prop := fun ns ds => ns.length ≤ 63 ∧ ds = [.int 0]
def rel__law_book : List Int → List PyData → PyData → Prop := fun _ _ d => ∃ (sg : List (Nat × Nat)) (rs : List Rl), BOk sg rs ∧ d = bD sg rs
theorem c__law_book (T : Txt P wd K mg dW) : C8.Cal P wd K mg base 7 "_law_book" (spR K pre__law_book rel__law_book) [] :=
  have c__law_cell := c__law_cell (P := P) (base := base) T
  have c__law_take := c__law_take (P := P) (base := base) T
  have c__law_rule := c__law_rule (P := P) (base := base) T
  cal_R T.d__law_book sc__law_book (fun ns ds ⟨_, h⟩ => by rw [h]; rfl) fun f cdv A outer s H E hr => ⟨_, (pss_cons (ps_set (i := 2) sc__law_book.nd rfl (Or.inr rfl) (pe_lst (pa_cons (C8.pe_c c__law_cell hr (by omega) (by rfl) (pa_cons (pv 0) (pa_cons (pv 1) pa_nil))) pa_nil)))
      (pss_cons (ps_setLc (i := 3) (own := [("_law_k", 7)]) rfl sc__law_book.nd rfl rfl (sw_true rfl rfl rfl (by decide +kernel)) (pi_range1 (by rfl) T.range (pa_cons (pe_op op_add pe_int (C8.pe_c c__law_take hr (by omega) (by rfl) (pa_cons (pv 2) (pa_cons pe_int pa_nil)))) pa_nil)) (blkOk_by (own := [("_law_k", 7)]) (N := N__law_book) (sc := defScope s__law_book) (by decide +kernel)) (fun _ _ _ _ _ => (pg_name (i := 7) sc__law_book.nd rfl (Or.inl rfl))) (fun _ _ _ _ _ => pts_nil) (fun _ _ _ _ _ => (pe_tup (pa_cons (C8.pe_c c__law_take hr (by omega) (by rfl) (pa_cons (pv 2) (pa_cons pe_int pa_nil))) (pa_cons (C8.pe_c c__law_take hr (by omega) (by rfl) (pa_cons (pv 2) (pa_cons pe_int pa_nil))) pa_nil)))))
      (pss_cons (ps_set (i := 4) sc__law_book.nd rfl (Or.inl rfl) (pe_cmpR op_gt (C8.pe_c c__law_take hr (by omega) (by rfl) (pa_cons (pv 2) (pa_cons pe_int pa_nil))) pe_int (nomark _)))
      (pss_cons (ps_set (i := 5) sc__law_book.nd rfl (Or.inl rfl) (pe_cmpR (r := rEqD K) (op_eqD hr.units) (C8.pe_c c__law_take hr (by omega) (by rfl) (pa_cons (pv 2) (pa_cons pe_int pa_nil))) pe_int (nomark _)))
      (pss_cons (ps_set (i := 6) sc__law_book.nd rfl (Or.inl rfl) (pe_lst pa_nil))
      (pss_cons (ps_for PassesOwn.never rfl (pi_range1 (by rfl) T.range (pa_cons (C8.pe_c c__law_take hr (by omega) (by rfl) (pa_cons (pv 2) (pa_cons pe_int pa_nil))) pa_nil)) (pg_name (i := 7) sc__law_book.nd rfl (Or.inl rfl)) (pss_cons (ps_set (i := 8) sc__law_book.nd rfl (Or.inl rfl) (pe_lst (pa_cons (C8.pe_c c__law_cell hr (by omega) (by rfl) (pa_cons (pv 0) (pa_cons (pe_op op_add (pe_op op_add (pv 1) pe_int) (pv 7)) pa_nil))) pa_nil)))
      (pss_cons (ps_set (i := 9) sc__law_book.nd rfl (Or.inl rfl) (C8.pe_c c__law_take hr (by omega) (by rfl) (pa_cons (pv 8) (pa_cons (pe_callB (r := rLen K) call_len_seq (by rfl) T.len PySem.boot_len (pa_cons (pv 3) pa_nil)) pa_nil))))
      (pss_cons (ps_set (i := 10) sc__law_book.nd rfl (Or.inl rfl) pe_int)
      (pss_cons (ps_if (PW.pt (pw_and (pt_val (pv 4)) (pw_and1 (pt_cmpR op_lt (pv 7) (pe_callB (r := rLen K) call_len_seq (by rfl) T.len PySem.boot_len (pa_cons (pv 3) pa_nil)) (nomark _))))) (pss_cons (ps_set (i := 9) sc__law_book.nd rfl (Or.inl rfl) (pv 7))
      (pss_one (ps_set (i := 10) sc__law_book.nd rfl (Or.inl rfl) pe_int))) pss_nil)
      (pss_one (ps_expr (pe_bm PySem.F.plainAttrs_list PySem.F.slot_list_append PySem.F.type_list_append mt_append (pv 6) (pa_cons (C8.pe_c c__law_rule hr (by omega) (by rfl) (pa_cons (pv 8) (pa_cons (pv 3) (pa_cons (pv 9) (pa_cons (pv 10) (pa_cons (pv 5) pa_nil)))))) pa_nil)))))))))
      (pss_one (ps_ret (pe_tup (pa_cons (pv 3) (pa_cons (pv 6) pa_nil))))))))))), fun w sc ns Q ds ⟨hn, h3⟩ hS rt => by
    subst h3
    have one : ∀ {Γ : List De} {w1 : Wo} {te : TE} {k : Nat}, R none w w1 → Γ[0]? = some (.raw (.ref sc)) → EvE none te Γ w1 (.int (k : Int)) → k ≤ 100 → EvN none (tLst (tCons (tCall (spR K pre__law_cell rel__law_cell) [] C8.E0 (tCons (tVar 0) (tCons te tNil))) tNil)) Γ w1 (fun e => e = [.int (cellN ns k)]) := fun r h1 h2 h3 =>
      (ev_lst (ea_conse (ev_cell (hS.mono r) hn h1 h2 h3) ea_nil) fun ds h => by rw [h]; simp).imp fun ds h => h
    refine sq_setNe (one (k := 0) (R.refl _ _) rfl (ev_var rfl) (by omega)) fun a w1 r1 ha => ?_
    refine on_ownP (i := 2) (cellN_nn ns 0) rfl ⟨trivial, trivial, trivial, trivial, trivial, trivial, trivial, trivial, trivial, trivial, trivial, trivial⟩ fun hp => ?_
    have hp' : ∀ {w2 : Wo}, R (some a) w1 w2 → PileOk a w2 := fun r => r.p a rfl hp
    refine sq_set (D1 := fun d => ∃ sg : List (Nat × Nat), SgOk sg ∧ d = .list (sg.map pD)) (EvD.imp (EvN.ev (ev_lcRng (js := [7]) (N := fun n => 1 ≤ n ∧ n ≤ 4) (B := 4) (EvA.impD (ea_cons (D1 := fun d => ∃ n : Nat, d = .int (n : Int) ∧ 1 ≤ n ∧ n ≤ 4) (ev_op ev_int (ev_take (m := 4) hp rfl (by decide) (by decide) ev_int) fun d e hd ⟨r, hr, he⟩ => ?_) ea_nil) ?_) (fun n h => h.2) (by decide) (by simp)
      (fun k => [.raw (.ref sc), .dat (.int 0), .raw (.ref a), .no, .no, .no, .no, .dat (.int (k : Int)), .no, .no, .no]) (fun d => ∃ p : Nat × Nat, p.1 ≤ 2 ∧ p.2 ≤ 2 ∧ d = pD p) (fun k => tg_name) fun k => EvD.imp (ev_tup (EvA.impD (ea_cons (ev_take (m := 3) hp rfl (by decide) (by decide) ev_int) (ea_cons (ev_take (m := 3) hp rfl (by decide) (by decide) ev_int) ea_nil)) (L2 := fun ds => ∃ p : Nat × Nat, p.1 ≤ 2 ∧ p.2 ≤ 2 ∧ ds = [.int (p.1 : Int), .int (p.2 : Int)]) ?_) fun ds ⟨_, _, _, h⟩ => by rw [h]; simp) fun d ⟨ds, h1, p, h2, h3, h4⟩ => ⟨p, h2, h3, by rw [h1, h4]; rfl⟩)) fun d ⟨ds, h1, n, h2, h3⟩ => ?_) fun d w2 r2 ⟨sg, hok, hd⟩ => ?_
    · subst hd he
      exact rd_imp rd_i fun d hd => ⟨1 + r, by rw [hd, Int.natCast_add]; rfl, by omega, by omega⟩
    · rintro ds ⟨d, es, rfl, ⟨n, rfl, h1, h2⟩, rfl⟩
      exact ⟨n, rfl, h1, h2⟩
    · rintro ds ⟨d, es, rfl, ⟨p, hp1, rfl⟩, d2, es2, rfl, ⟨q, hq1, rfl⟩, rfl⟩
      exact ⟨(p, q), by show p ≤ 2; omega, by show q ≤ 2; omega, rfl⟩
    · obtain ⟨sg, e1, e2, e3⟩ := f2_sg h3
      rw [List.length_range] at e2
      exact ⟨sg, ⟨by omega, by omega, e3⟩, by rw [h1, e1]⟩
    · subst hd
      have a1 := hok.l1
      have a4 := hok.l4
      refine sq_set (D1 := fun d => ∃ b : Bool, d = .bool b) (ev_op (ev_take (m := 4) (hp' r2) rfl (by decide) (by decide) ev_int) ev_int fun d e ⟨r, hr, hd⟩ he => ?_) fun d w3 r3 ⟨leaves, hd⟩ => ?_
      · subst hd he
        exact rd_imp rd_b fun d hd => ⟨_, hd⟩
      subst hd
      refine sq_set (D1 := fun d => ∃ b : Bool, d = .bool b) (ev_op (ev_take (m := 4) (hp' (r2.trans r3)) rfl (by decide) (by decide) ev_int) ev_int fun d e ⟨r, hr, hd⟩ he => ?_) fun d w4 r4 ⟨free, hd⟩ => ?_
      · subst hd he
        exact rd_imp (rd_eq (int_sh _) (int_sh _)) fun d hd => ⟨_, hd⟩
      subst hd
      have r14 := (r2.trans r3).trans r4
      refine sq_setNe ev_nilN fun p w5 r5 hp5 => ?_
      have hp0 : w.H p = none := (r1.own ha r14).free hp5
      refine sq_forRng (N := fun n => n ≤ 8) (EvA.impD (ea_cons (ev_take (m := 9) (hp' (r14.trans r5)) rfl (by decide) (by decide) ev_int) ea_nil) ?_) fun n w6 r6 hn8 => ?_
      · rintro ds ⟨d, es, rfl, ⟨r, hr, rfl⟩, rfl⟩
        exact ⟨r, rfl, by omega⟩
      have r06 : R none w w6 := r1.own ha ((r14.trans r5).trans r6)
      refine on_back ?_
      refine sq_forE (js := [7]) (List.range n) (fun (i : Nat) => .int (i : Int)) (ei_range1 (ea_conse ev_int ea_nil) (by omega)) r06 (fun i Γ => ∃ rs : List Rl, rs.length = i ∧ (∀ r ∈ rs, RlOk sg r) ∧ Γ = [.raw (.ref sc), .dat (.int 0), .no, .dat (.list (sg.map pD)), .dat (.bool leaves), .dat (.bool free), .ml p (rs.map rD), .no, .no, .no, .no]) ⟨_, ⟨[], rfl, by simp, rfl⟩, .same (.same (.no (.same (.same (.same (.same (.no (.no (.no (.no .nil))))))))))⟩ ?_ ?_
      · rintro i x w7 G0 Γi hx ⟨rs, hrl, hrok, rfl⟩ r7 x7 x8
        have hi := (List.getElem?_eq_some_iff.mp hx).1
        rw [List.length_range] at hi
        rw [List.getElem?_range hi] at hx
        obtain rfl : i = x := Option.some.inj hx
        refine ⟨_, tg_name, ?_⟩
        refine on_has (j := 6) rfl fun hP => ?_
        refine sq_setNe (one (k := 1 + i) r7 rfl (EvD.to (ev_ope (ev_ope (ev_var rfl) ev_int rd_i) (ev_var rfl) rd_i) (by congr 1)) (by omega)) fun b w8 r8 hb => ?_
        have hpb : p ≠ b := fun z => hP (by rw [z]; exact hb)
        have hb0 : w.H b = none := r7.free hb
        refine on_ownP (i := 8) (cellN_nn ns (1 + i)) rfl ⟨trivial, trivial, trivial, trivial, trivial, trivial, hpb, trivial, trivial, trivial, trivial, trivial⟩ fun hq => ?_
        have hq' : ∀ {w2 : Wo}, R (some b) w8 w2 → PileOk b w2 := fun r => r.p b rfl hq
        have rb : R (some b) w w8 := (r7.trans r8).weak
        refine sq_set (ev_take (m := sg.length) hq rfl a1 (by omega) (ev_lenL (n := sg.length) (ev_var rfl) (by simp))) fun d w9 r9 ⟨sn, hsn, hd⟩ => ?_
        subst hd
        refine sq_sete ev_int fun w10 r10 => ?_
        refine sq_ifJ (Γm := [.raw (.ref sc), .dat (.int 0), .no, .dat (.list (sg.map pD)), .dat (.bool leaves), .dat (.bool free), .ml p (rs.map rD), .dat (.int (i : Int)), .raw (.ref b), .dat (.int ((if (leaves && decide (i < sg.length)) = true then i else sn : Nat) : Int)), .dat (.int ((if (leaves && decide (i < sg.length)) = true then 0 else 2 : Nat) : Int))]) (b := leaves && decide (i < sg.length)) (et_and (et_B (ev_var rfl)) fun _ => et_test (EvD.to (ev_ope (ev_var rfl) (ev_lenL (n := sg.length) (ev_var rfl) (by simp)) rd_b) (by congr 1; exact decide_eq_decide.mpr (by omega)))) (fun E' hk w11 r11 hbt => ?_) (fun E' hk w11 r11 hbt => ?_) fun w11 r11 => ?_
        · refine sq_sete (ev_var rfl) fun w12 r12 => ?_
          refine on_sete ev_int fun w13 r13 => ?_
          have := hk w13 ((r11.trans r12).trans r13)
          rw [hbt] at this
          exact this
        · have := hk w11 r11
          rw [hbt] at this
          exact on_next this
        · have hsg : (if (leaves && decide (i < sg.length)) = true then i else sn) < sg.length := by
            split
            · rename_i h
              rw [Bool.and_eq_true, decide_eq_true_eq] at h
              exact h.2
            · exact hsn
          have hmo : (if (leaves && decide (i < sg.length)) = true then 0 else 2) ≤ 2 := by split <;> omega
          have r8b := (r9.trans r10).trans r11
          refine on_app (D1 := fun d => ∃ r : Rl, RlOk sg r ∧ d = rD r) (rb.trans r8b) hp0 rfl ⟨trivial, trivial, trivial, trivial, trivial, trivial, trivial, trivial, trivial, trivial, trivial, trivial⟩ (EvD.imp (ev_callP (hq' r8b) rfl (ea_conse (ev_var rfl) (ea_conse (ev_var rfl) (ea_conse (ev_var rfl) (ea_conse (ev_var rfl) ea_nil)))) ⟨sg, _, _, free, hok, hsg, hmo, rfl⟩) fun d hd => hd sg rfl) (by rw [List.length_map]; omega) fun d w12 r12 x12 ⟨r, hr, hd⟩ => ?_
          subst hd
          exact on_nxEb hb0 r12 ((x8.trans r8.g).trans (r8b.g.trans x12)) ⟨rs ++ [r], by simp [hrl], fun q hq => by
            rcases List.mem_append.mp hq with hq | hq
            · exact hrok q hq
            · rw [List.mem_singleton.mp hq]; exact hr, by rw [List.map_append]; rfl⟩ (.same (.same (.no (.same (.same (.same (.same (.no (.no (.no (.no .nil)))))))))))
      · rintro w7 Γn ⟨rs, hrl, hrok, rfl⟩ r7 x7
        rw [List.length_range] at hrl
        refine on_fix (j := 6) r7 hp0 rfl ⟨trivial, trivial, trivial, trivial, trivial, trivial, trivial, trivial, trivial, trivial, trivial, trivial⟩ fun w8 r8 x8 => ?_
        exact on_ret r8 (D1 := rel__law_book ns [.int 0]) (EvD.imp (ev_tupe (ea_conse (ev_var rfl) (ea_conse (ev_var rfl) ea_nil)) (by simp)) fun d h => ⟨sg, rs, ⟨hok, by omega, hrok⟩, h⟩) rt⟩
/-! _law_turned -/
def rel__law_turned (n : Nat) : List PyData → PyData → Prop := fun ds d => ∃ (t : KM.T) (ks : List Nat), t.hgt < n ∧ KM.T.Below ks.length t ∧ ds = [tD t, .list (ks.map iD)] ∧ d = tD (t.turn fun j => ks.getD j 0)
theorem turn_eq (f : Nat → Nat) (t : KM.T) : tD (t.turn f) = .tuple [.int (f t.r : Int), .tuple (t.bs.map fun b => tD (b.turn f))] := by
  rw [tD_eq]
  cases t <;> rfl
theorem hgt_bs {t b : KM.T} (h : b ∈ t.bs) : b.hgt < t.hgt := by
  cases t with
  | n0 r => cases h
  | n1 r a =>
    have : b = a := by simpa [KM.T.bs] using h
    subst this
    simp [KM.T.hgt]
  | n2 r a c =>
    have : b = a ∨ b = c := by simpa [KM.T.bs] using h
    rcases this with rfl | rfl <;> simp [KM.T.hgt] <;> omega
theorem below_bs {n : Nat} {t b : KM.T} (hb : KM.T.Below n t) (h : b ∈ t.bs) : KM.T.Below n b := by
  cases t with
  | n0 r => cases h
  | n1 r a =>
    have : b = a := by simpa [KM.T.bs] using h
    subst this
    exact (KM.T.below1 hb).2
  | n2 r a c =>
    have : b = a ∨ b = c := by simpa [KM.T.bs] using h
    rcases this with rfl | rfl
    · exact (KM.T.below2 hb).2.1
    · exact (KM.T.below2 hb).2.2
theorem below_r {n : Nat} {t : KM.T} (hb : KM.T.Below n t) : t.r < n := hb t.r (by cases t <;> simp [KM.T.r, KM.T.flat])
theorem bs_len (t : KM.T) : t.bs.length ≤ 2 := by cases t <;> simp [KM.T.bs]
theorem c__law_turned (T : Txt P wd K mg dW) : ∀ n : Nat, C8.Cal P wd K mg base (n + 1) "_law_turned" (spD (rel__law_turned n)) []
  | 0 => cal_no T.d__law_turned sc__law_turned fun vs H Q E ⟨_, _, _, _, _, ⟨_, _, h, _⟩, _⟩ => by omega
  | n + 1 =>
    have c__law_turned := c__law_turned T n
    cal_D T.d__law_turned sc__law_turned (fun ds d ⟨_, _, _, _, h, _⟩ => by rw [h]; rfl) fun f cdv A outer s H E hr => ⟨_, (pss_one (ps_ret (pe_tup (pa_cons (pe_ix (r := rIxL K) ix_list (pv 1) (pe_ix (r := rIxT K) ix_tup (pv 0) pe_int (fun _ _ => rfl)) (fun _ _ => rfl)) (pa_cons (pe_tupleOf (by rfl) T.tuple (pe_lc (own := [("_law_bough", 2)]) rfl sc__law_turned.nd (pi_tup (pe_ix (r := rIxT K) ix_tup (pv 0) pe_int (fun _ _ => rfl))) (blkOk_by (own := [("_law_bough", 2)]) (N := N__law_turned) (sc := defScope s__law_turned) (by decide +kernel)) (fun _ _ _ _ _ => (pg_name (i := 2) sc__law_turned.nd rfl (Or.inl rfl))) (fun _ _ _ _ _ => pts_nil) (fun _ _ _ _ _ => (C8.pe_c c__law_turned hr (by omega) (by rfl) (pa_cons (pv 2) (pa_cons (pv 1) pa_nil)))))) pa_nil))))), fun w Q ds d ⟨t, ks, ht, hb, h1, h2⟩ rt => by
      subst h1 h2
      have eT : ∀ {Γ : List De} {w1 : Wo}, Γ[0]? = some (.dat (tD t)) → EvE none (tVar 0) Γ w1 (.tuple [.int (t.r : Int), .tuple (t.bs.map tD)]) := fun h => EvD.to (ev_var h) (tD_eq t)
      refine on_ret (R.refl _ _) (D1 := fun e => e = tD (t.turn fun j => ks.getD j 0)) ?_ rt
      have hl := bs_len t
      refine EvD.to (ev_tupe (ea_conse (ev_ixL t.r (ev_var rfl) (ev_ixT 0 (eT rfl) ev_int rfl) (getCell (below_r hb))) (ea_conse (ev_tupOfe (EvN.eve (ev_lc (js := [2]) t.bs tD (ei_tup (ev_ixT 1 (eT rfl) ev_int rfl)) (by omega) (by simp)
        (fun b => [.dat (tD t), .dat (.list (ks.map iD)), .dat (tD b)]) (fun b => tD (b.turn fun j => ks.getD j 0)) (fun b _ => tg_name) fun b hbm => ev_call (ea_conse (ev_var rfl) (ea_conse (ev_var rfl) ea_nil)) ⟨b, ks, by have := hgt_bs hbm; omega, below_bs hb hbm, rfl, rfl⟩))) ea_nil)) (by simp)) ?_
      rw [turn_eq]
      rfl⟩
/-! _law_rules -/
def rel__law_rules (n : Nat) : List PyData → PyData → Prop := fun ds d => ∃ t : KM.T, t.hgt < n ∧ t.knots ≤ 50000 ∧ ds = [tD t] ∧ d = .list (t.flat.map iD)
theorem flat_eq (t : KM.T) : t.flat = t.bs.foldl (fun l b => l ++ b.flat) [t.r] := by cases t <;> simp [KM.T.flat, KM.T.bs, KM.T.r]
theorem knots_bs {t b : KM.T} (h : b ∈ t.bs) : b.knots < t.knots := by
  cases t with
  | n0 r => cases h
  | n1 r a =>
    have : b = a := by simpa [KM.T.bs] using h
    subst this
    simp [KM.T.knots]
  | n2 r a c =>
    have : b = a ∨ b = c := by simpa [KM.T.bs] using h
    rcases this with rfl | rfl <;> simp [KM.T.knots] <;> omega
theorem c__law_rules (T : Txt P wd K mg dW) : ∀ n : Nat, C8.Cal P wd K mg base (n + 1) "_law_rules" (spD (rel__law_rules n)) []
  | 0 => cal_no T.d__law_rules sc__law_rules fun vs H Q E ⟨_, _, _, _, _, ⟨_, h, _⟩, _⟩ => by omega
  | n + 1 =>
    have c__law_rules := c__law_rules T n
    cal_D T.d__law_rules sc__law_rules (fun ds d ⟨_, _, _, h, _⟩ => by rw [h]; rfl) fun f cdv A outer s H E hr => ⟨_, (pss_cons (ps_set (i := 1) sc__law_rules.nd rfl (Or.inl rfl) (pe_lst (pa_cons (pe_ix (r := rIxT K) ix_tup (pv 0) pe_int (fun _ _ => rfl)) pa_nil)))
      (pss_cons (ps_for PassesOwn.never rfl (pi_tup (pe_ix (r := rIxT K) ix_tup (pv 0) pe_int (fun _ _ => rfl))) (pg_name (i := 2) sc__law_rules.nd rfl (Or.inl rfl)) (pss_one (ps_set (i := 1) sc__law_rules.nd rfl (Or.inl rfl) (pe_op op_cat (pv 1) (C8.pe_c c__law_rules hr (by omega) (by rfl) (pa_cons (pv 2) pa_nil))))))
      (pss_one (ps_ret (pv 1))))), fun w Q ds d ⟨t, ht, hk, h1, h2⟩ rt => by
      subst h1 h2
      have eT : ∀ {Γ : List De} {w1 : Wo}, Γ[0]? = some (.dat (tD t)) → EvE none (tVar 0) Γ w1 (.tuple [.int (t.r : Int), .tuple (t.bs.map tD)]) := fun h => EvD.to (ev_var h) (tD_eq t)
      have hl := bs_len t
      refine sq_sete (d := .list ([t.r].map iD)) (EvN.eve ((ev_lst (ea_conse (ev_ixT 0 (eT rfl) ev_int rfl) ea_nil) fun ds h => by rw [h]; simp).imp fun ds h => h)) fun w1 r1 => ?_
      refine sq_for (S := List Nat) (js := [2]) t.bs tD (ei_tup (ev_ixT 1 (eT rfl) ev_int rfl)) r1 (fun l => [.dat (tD t), .dat (.list (l.map iD)), .no]) (fun l b => l ++ b.flat) (fun i l => l.length ≤ 1 + i * 50000) [t.r] (.same (.same (.no .nil))) (by simp) ?_ ?_ ?_
      · intro i l b hb hll
        have h1 := knots_bs (List.mem_of_getElem? hb)
        rw [List.length_append, KM.T.flat_len, Nat.succ_mul]
        omega
      · intro i l b w2 G0 hb hll _ r2 x2 x3
        have hbm := List.mem_of_getElem? hb
        have h1 := knots_bs hbm
        have hi := (List.getElem?_eq_some_iff.mp hb).1
        have hi2 : i * 50000 ≤ 1 * 50000 := Nat.mul_le_mul_right _ (by omega)
        refine ⟨_, tg_name, ?_⟩
        refine on_sete (EvN.eve (ev_catL (ds := l.map iD) (es := b.flat.map iD) (ev_var rfl) (ev_call (ea_conse (ev_var rfl) ea_nil) ⟨b, by have := hgt_bs hbm; omega, by omega, rfl, rfl⟩) (by rw [List.length_map, List.length_map, KM.T.flat_len]; omega))) fun w3 r3 => ?_
        rw [← List.map_append]
        exact on_nx (r2.trans r3) (x3.trans r3.g) (.same (.same (.no .nil)))
      · intro w2 _ r2 x2
        rw [← flat_eq]
        exact on_ret r2 (D1 := fun e => e = .list (t.flat.map iD)) (ev_var rfl) rt⟩
end
end U
end

section
set_option maxRecDepth 100000
set_option maxHeartbeats 4000000
/-! The law. -/
namespace U
open PySem PySem.Spec PyProof.Rows L2 HT2
open KM (cell countsN treesF RunsL RunsC init keepR madeF aliveR ixs tau at')
section
variable {P : Program} {wd : World} {K : PySem.W.Frag} {mg : Str → Option Value} {base : Heap} {dW C : Addr}
def pre_law : List Int → List PyData → Prop := fun ns ds => ns.length ≤ 63 ∧ ds = []
def rel_law : List Int → List PyData → PyData → Prop := fun _ _ d => d = .bool true
theorem ok_law (T : Txt P wd K mg dW) (X : TxtE K mg C) {f : Addr} {fd : FuncData} (F : L2.Fun K "law" "law" s_law f fd) : FnOk P wd K mg base L2.CX0 20 f fd ["_law_script"] (spR K pre_law rel_law) :=
  have c__law_book := c__law_book (P := P) (base := base) T
  have c__law_cell := c__law_cell (P := P) (base := base) T
  have c_useful_rules := c_useful_rules (P := P) (base := base) T
  have c_cut_book := c_cut_book (P := P) (base := base) T
  have c_least_tree := c_least_tree (P := P) (base := base) T
  have c__law_turned := c__law_turned (P := P) (base := base) T 17
  have c__law_rules := c__law_rules (P := P) (base := base) T 12
  have c__law_trees := c__law_trees (P := P) (base := base) T X
  ok_R F sc_law (fun ns ds ⟨_, h⟩ => by rw [h]; rfl) fun f cdv A outer s H E hr => ⟨_, (pss_cons (ps_set (i := 1) sc_law.nd rfl (Or.inl rfl) (C8.pe_c c__law_book hr (by omega) (by rfl) (pa_cons (pv 0) (pa_cons pe_int pa_nil))))
      (pss_cons (ps_set (i := 2) sc_law.nd rfl (Or.inl rfl) (pe_op op_mod (C8.pe_c c__law_cell hr (by omega) (by rfl) (pa_cons (pv 0) (pa_cons pe_int pa_nil))) pe_int))
      (pss_cons (ps_set (i := 3) sc_law.nd rfl (Or.inr rfl) (C8.pe_c c_useful_rules hr (by omega) (by rfl) (pa_cons (pv 1) pa_nil)))
      (pss_cons (ps_set (i := 4) sc_law.nd rfl (Or.inl rfl) (C8.pe_c c_cut_book hr (by omega) (by rfl) (pa_cons (pv 1) pa_nil)))
      (pss_cons (ps_if (PW.pt (pw_or (pt_cmpR (r := rNeD K) (op_neD hr.units) (C8.pe_c c_useful_rules hr (by omega) (by rfl) (pa_cons (pv 4) pa_nil)) (pe_listRg rfl (by rfl) T.list (prg_1 (by rfl) T.range (pe_callB (r := rLen K) call_len_seq (by rfl) T.len PySem.boot_len (pa_cons (pv 3) pa_nil)))) (nomark _)) (pw_or1 (pt_cmpR (r := rNeD K) (op_neD hr.units) (C8.pe_c c_cut_book hr (by omega) (by rfl) (pa_cons (pv 4) pa_nil)) (pv 4) (nomark _))))) (pss_one (ps_ret pe_bl)) pss_nil)
      (pss_cons (ps_set (i := 5) sc_law.nd rfl (Or.inl rfl) (C8.pe_c c_least_tree hr (by omega) (by rfl) (pa_cons (pv 4) (pa_cons pe_int pa_nil))))
      (pss_cons (ps_if (pt_cmp (pc_notN (pv 5))) (pss_one (ps_set (i := 5) sc_law.nd rfl (Or.inl rfl) (C8.pe_c c__law_turned hr (by omega) (by rfl) (pa_cons (pv 5) (pa_cons (pv 3) pa_nil))))) pss_nil)
      (pss_cons (ps_if (pt_cmpR (r := rNeD K) (op_neD hr.units) (pv 5) (C8.pe_c c_least_tree hr (by omega) (by rfl) (pa_cons (pv 1) (pa_cons pe_int pa_nil))) (nomark _)) (pss_one (ps_ret pe_bl)) pss_nil)
      (pss_cons (ps_set (i := 6) sc_law.nd rfl (Or.inl rfl) (C8.pe_c c__law_trees hr (by omega) (by rfl) (pa_cons (pv 1) (pa_cons (pv 2) pa_nil))))
      (pss_cons (ps_set (i := 7) sc_law.nd rfl (Or.inl rfl) (C8.pe_c c__law_trees hr (by omega) (by rfl) (pa_cons (pv 4) (pa_cons (pv 2) pa_nil))))
      (pss_cons (ps_if (PW.pt (pw_or (pt_cmp (pc_isN (pv 6))) (pw_or1 (pt_cmp (pc_isN (pv 7)))))) (pss_one (ps_ret (pe_and (pe_cmp (pc_isN (pv 6))) (pe_one (pe_cmp (pc_isN (pv 7))))))) pss_nil)
      (pss_cons (ps_for PassesOwn.never rfl (pi_list (pv 6)) (pg_name (i := 8) sc_law.nd rfl (Or.inl rfl)) (pss_one (ps_if (pt_cmpR (r := rNeD K) (op_neD hr.units) (pe_lc (own := [("_law_rule_here", 9)]) rfl sc_law.nd (pi_list (C8.pe_c c__law_rules hr (by omega) (by rfl) (pa_cons (pv 8) pa_nil))) (blkOk_by (own := [("_law_rule_here", 9)]) (N := N_law) (sc := defScope s_law) (by decide +kernel)) (fun _ _ _ _ _ => (pg_name (i := 9) sc_law.nd rfl (Or.inl rfl))) (fun _ _ _ _ _ => (pts_one (pt_cmpR (r := rNotInD K) (op_notInD (units_lt hr (by decide))) (pv 9) (pv 3) (by rfl)))) (fun _ _ _ _ _ => (pv 9))) (pe_lst pa_nil) (nomark _)) (pss_one (ps_ret pe_bl)) pss_nil)))
      (pss_one (ps_ret (pe_cmpR (r := rEqD K) (op_eqD hr.units) (pe_lc (own := [("_law_tree", 8)]) rfl sc_law.nd (pi_list (pv 7)) (blkOk_by (own := [("_law_tree", 8)]) (N := N_law) (sc := defScope s_law) (by decide +kernel)) (fun _ _ _ _ _ => (pg_name (i := 8) sc_law.nd rfl (Or.inl rfl))) (fun _ _ _ _ _ => pts_nil) (fun _ _ _ _ _ => (C8.pe_c c__law_turned hr (by omega) (by rfl) (pa_cons (pv 8) (pa_cons (pv 3) pa_nil))))) (pv 6) (nomark _)))))))))))))))), fun w sc ns Q ds ⟨hn, h3⟩ hS rt => by
    subst h3
    refine sq_set (ev_callR hS rfl (ea_conse ev_int ea_nil) ⟨hn, rfl⟩) fun d w1 r1 ⟨sg, rs, hok, hd⟩ => ?_
    subst hd
    obtain ⟨m, hm, hm6⟩ : ∃ m : Nat, cellN ns 9 % 7 = (m : Int) ∧ m ≤ 6 := ⟨(cellN ns 9 % 7).toNat, by omega, by omega⟩
    refine sq_sete (d := .int (m : Int)) (EvD.to (ev_ope (ev_cell (k := 9) (hS.mono r1) hn rfl ev_int (by omega)) ev_int (rd_ic (C := fun _ j => 0 < j) (g := fun i j => i % j) (by decide))) (by rw [hm])) fun w2 r2 => ?_
    have bk := hok.bk
    have a1 := hok.s.l1
    have a4 := hok.s.l4
    have a8 := hok.r8
    have ic : KM.InvC sg.length [0] := ⟨by simp, fun k hk => by have e : k = 0 := (by simpa using hk); omega⟩
    obtain ⟨Fd, hF⟩ := KM.runsL_ex a8 bk.p2 _ (init sg.length) (Nat.le_refl _) (KM.init_inv rs _) (by simp [init]; omega) (fun ru h => by simp [init]; exact bk.sg ru h)
    obtain ⟨come, hC⟩ := KM.runsC_ex (as := rs.filter (aliveR (madeF Fd))) (L := sg.length) (fun ru h => bk.pt ru (List.mem_filter.mp h).1) _ [0] (Nat.le_refl _) ic
    have hok2 := hok.cut (keepR (madeF Fd) come)
    have bk2 := hok2.bk
    obtain ⟨Fd', hF'⟩ := KM.runsL_ex hok2.r8 bk2.p2 _ (init sg.length) (Nat.le_refl _) (KM.init_inv _ _) (by simp [init]; omega) (fun ru h => by simp [init]; exact bk2.sg ru h)
    obtain ⟨come', hC'⟩ := KM.runsC_ex (as := (rs.filter (keepR (madeF Fd) come)).filter (aliveR (madeF Fd'))) (L := sg.length) (fun ru h => bk2.pt ru (List.mem_filter.mp h).1) _ [0] (Nat.le_refl _) ic
    have cut := KM.cut_all bk hF hC hF' hC'
    have hlT := fun most => listT_cut (most := most) cut
    have hks : (ixs (keepR (madeF Fd) come) 0 rs).length = (rs.filter (keepR (madeF Fd) come)).length := KM.ixs_len _ _ _
    have c1 := cut.ix
    have c2 := cut.same
    have c3 := cut.least
    have hi2 : KM.InvL (rs.filter (keepR (madeF Fd) come)) Fd' := hF'.inv bk2.p2 (KM.init_inv _ _)
    have hi1 : KM.InvL rs Fd := hF.inv bk.p2 (KM.init_inv _ _)
    have hFl := runs_len hF
    have hFl' := runs_len hF'
    have hl8 : (rs.filter (keepR (madeF Fd) come)).length ≤ 8 := hok2.r8
    have u1 : rel_useful_rules [bD sg rs] (.list ((ixs (keepR (madeF Fd) come) 0 rs).map iD)) := ⟨sg, rs, Fd, come, hok, hF, hC, rfl, rfl⟩
    have u2 : rel_cut_book [bD sg rs] (bD sg (rs.filter (keepR (madeF Fd) come))) := ⟨sg, rs, Fd, come, hok, hF, hC, rfl, rfl⟩
    have u3 : rel_useful_rules [bD sg (rs.filter (keepR (madeF Fd) come))] (.list ((List.range (ixs (keepR (madeF Fd) come) 0 rs).length).map iD)) := ⟨sg, _, Fd', come', hok2, hF', hC', rfl, by rw [c1]⟩
    have u4 : rel_cut_book [bD sg (rs.filter (keepR (madeF Fd) come))] (bD sg (rs.filter (keepR (madeF Fd) come))) := ⟨sg, _, Fd', come', hok2, hF', hC', rfl, by rw [c2]⟩
    have u5 : rel_least_tree [bD sg (rs.filter (keepR (madeF Fd) come)), .int ((0 : Nat) : Int)] (tE (at' Fd' 0)) := ⟨sg, _, Fd', 0, hok2, hF', by omega, rfl, rfl⟩
    have u6 : rel_least_tree [bD sg rs, .int ((0 : Nat) : Int)] (tE (at' Fd 0)) := ⟨sg, _, Fd, 0, hok, hF, by omega, rfl, rfl⟩
    have u7 : rel__law_trees [bD sg rs, .int (m : Int)] (optD ((listT rs sg.length 0 m).map trD)) := ⟨sg, rs, m, hok, by omega, rfl, rfl⟩
    have u8 : rel__law_trees [bD sg (rs.filter (keepR (madeF Fd) come)), .int (m : Int)] (optD ((listT (rs.filter (keepR (madeF Fd) come)) sg.length 0 m).map trD)) := ⟨sg, _, m, hok2, by omega, rfl, rfl⟩
    have hB2 := sh_B hok2
    have hmem := fun ts (h : listT (rs.filter (keepR (madeF Fd) come)) sg.length 0 m = some ts) => listT_mem bk2 (by omega) h
    have hg1 : ∀ p, at' Fd 0 = some p → p.2.hgt ≤ 15 := fun p h => inv_hgt hi1 (by omega) h
    have hg2 : ∀ p, at' Fd' 0 = some p → p.2.hgt ≤ 15 ∧ KM.T.Below (ixs (keepR (madeF Fd) come) 0 rs).length p.2 := fun p h => ⟨inv_hgt hi2 (by omega) h, by rw [hks]; exact (hi2.good 0 p h).b⟩
    have hT := hlT m
    clear hlT c1 c2 cut hC hC' hF hF' hi1 hi2
    generalize hcu : rs.filter (keepR (madeF Fd) come) = cu at *
    generalize hke : ixs (keepR (madeF Fd) come) 0 rs = ks at *
    refine sq_sete (ev_call (ea_conse (ev_var rfl) ea_nil) u1) fun w3 r3 => ?_
    refine sq_sete (ev_call (ea_conse (ev_var rfl) ea_nil) u2) fun w4 r4 => ?_
    have r14 := (r1.trans r2).trans (r3.trans r4)
    refine sq_ifF (b := false || false) (et_or (a := false) (et_test (EvD.to (ev_ope (ev_call (ea_conse (ev_var rfl) ea_nil) u3) (EvN.eve (ev_listRg (ev_lenL (n := ks.length) (ev_var rfl) (by simp)) (by omega))) (rd_ne (sh_Is _) (sh_Is _))) (by
      have := eqv_self (sh_Is (List.range ks.length))
      show PyData.bool (!PyData.eqv (.list ((List.range ks.length).map iD)) (.list ((List.range ks.length).map iD))) = _
      rw [this]; rfl))) fun _ => et_test (EvD.to (ev_ope (ev_call (ea_conse (ev_var rfl) ea_nil) u4) (ev_var rfl) (rd_ne hB2 hB2)) (by rw [eqv_self hB2]; rfl))) rfl fun w5 r5 => ?_
    refine sq_sete (ev_call (ea_conse (ev_var rfl) (ea_conse ev_int ea_nil)) u5) fun w6 r6 => ?_
    refine sq_ifJ (Γm := [.raw (.ref sc), .dat (bD sg rs), .dat (.int (m : Int)), .dat (.list (ks.map iD)), .dat (bD sg cu), .dat (tE (at' Fd 0)), .no, .no, .no, .no]) (b := (at' Fd' 0).isSome) (et_B (EvD.to (ev_notN (ev_var rfl)) (by cases at' Fd' 0 with
      | none => rfl
      | some p => rw [show tE (some p) = tD p.2 from rfl, tD_eq]; rfl))) (fun E' hk w7 r7 hb => ?_) (fun E' hk w7 r7 hb => ?_) fun w7 r7 => ?_
    · cases e : at' Fd' 0 with
      | none => rw [e] at hb; cases hb
      | some p =>
        obtain ⟨hh, hbl⟩ := hg2 p e
        rw [e] at c3
        refine on_sete (d := tE (at' Fd 0)) (EvD.to (ev_call (ea_conse (EvD.to (ev_var rfl) (e := tD p.2) rfl) (ea_conse (ev_var rfl) ea_nil)) ⟨p.2, ks, by omega, hbl, rfl, rfl⟩) (by rw [← c3]; rfl)) fun w8 r8 => hk w8 (r7.trans r8)
    · have e : at' Fd' 0 = none := by
        cases e : at' Fd' 0 with
        | none => rfl
        | some p => rw [e] at hb; cases hb
      rw [e] at c3
      have := hk w7 r7
      rw [← c3] at this
      rw [e]
      exact on_next this
    have hE : SeqAt.shaped (tE (at' Fd 0)) = true := sh_tE fun p hp => by have := hg1 p hp; omega
    refine sq_ifF (b := false) (et_test (EvD.to (ev_ope (ev_var rfl) (ev_call (ea_conse (ev_var rfl) (ea_conse ev_int ea_nil)) u6) (rd_ne hE hE)) (by rw [eqv_self hE]; rfl))) rfl fun w8 r8 => ?_
    refine sq_sete (ev_call (ea_conse (ev_var rfl) (ea_conse (ev_var rfl) ea_nil)) u7) fun w9 r9 => ?_
    refine sq_sete (ev_call (ea_conse (ev_var rfl) (ea_conse (ev_var rfl) ea_nil)) u8) fun w10 r10 => ?_
    have rall := (((r14.trans r5).trans (r6.trans r7)).trans r8).trans (r9.trans r10)
    rw [hT]
    cases e : listT cu sg.length 0 m with
    | none =>
      refine sq_ifT (b := true || true) (et_or (a := true) (et_B (EvD.to (ev_isN (d := .none) (ev_var rfl)) rfl)) fun h => by cases h) rfl fun w11 r11 => ?_
      exact on_ret (rall.trans r11) (D1 := fun d => d = .bool true) (ev_tr2 (EvD.to (ev_isN (d := .none) (ev_var rfl)) rfl) (EvD.to (ev_isN (d := .none) (ev_var rfl)) rfl)) rt
    | some ts =>
      obtain ⟨hlen, hts⟩ := hmem ts e
      have hbl : ∀ t ∈ ts, KM.T.Below ks.length t := fun t ht => by rw [hks]; exact (hts t ht).2
      refine sq_ifF (b := false || false) (et_or (a := false) (et_B (EvD.to (ev_isN (d := trD (ts.map (KM.T.turn fun j => ks.getD j 0))) (ev_var rfl)) rfl)) fun _ => et_B (EvD.to (ev_isN (d := trD ts) (ev_var rfl)) rfl)) rfl fun w11 r11 => ?_
      refine sq_for (S := Unit) (js := [8]) (ts.map (KM.T.turn fun j => ks.getD j 0)) tD (ei_list (ev_var rfl)) (rall.trans r11) (fun _ => [.raw (.ref sc), .dat (bD sg rs), .dat (.int (m : Int)), .dat (.list (ks.map iD)), .dat (bD sg cu), .no, .dat (trD (ts.map (KM.T.turn fun j => ks.getD j 0))), .dat (trD ts), .no, .no]) (fun s _ => s) (fun _ _ => True) () (.same (.same (.same (.same (.same (.no (.same (.same (.no (.no .nil)))))))))) trivial (fun _ _ _ _ _ => trivial) ?_ ?_
      · intro i _ u w12 G0 hu _ _ r12 x12 x13
        obtain ⟨t, ht, rfl⟩ := List.mem_map.mp (List.mem_of_getElem? hu)
        have hth := (hts t ht).1
        have hks2 := knots_small hth
        have hfl := KM.T.flat_len (t.turn fun j => ks.getD j 0)
        rw [KM.T.turn_knots] at hfl
        refine ⟨_, tg_name, ?_⟩
        refine on_ifF (b := false) (et_test (EvD.to (ev_ope (d := .list []) (EvD.to (EvN.eve (ev_lcT (js := [9]) (t.turn fun j => ks.getD j 0).flat iD (ei_list (ev_call (ea_conse (ev_var rfl) ea_nil) ⟨t.turn fun j => ks.getD j 0, by rw [turn_hgt]; omega, by rw [KM.T.turn_knots]; exact hks2, rfl, rfl⟩)) (by omega) (by simp)
          (fun r => [.raw (.ref sc), .dat (bD sg rs), .dat (.int (m : Int)), .dat (.list (ks.map iD)), .dat (bD sg cu), .no, .dat (trD (ts.map (KM.T.turn fun j => ks.getD j 0))), .dat (trD ts), .dat (tD (t.turn fun j => ks.getD j 0)), .dat (iD r)]) (fun r => !decide (r ∈ ks)) iD (fun r _ => tg_name) (fun r _ => et_test (EvD.to (ev_ope (ev_var rfl) (ev_var rfl) (rd_nin (int_sh _) (sh_Is ks))) (by rw [any_I]))) fun r _ _ => ev_var rfl)) (by
            rw [List.filter_eq_nil_iff.mpr fun r hr => by simp [turn_in (hbl t ht) r hr]]
            rfl)) ev_nilL (rd_ne (sh_Is []) (sh_Is []))) (congrArg (fun b => PyData.bool !b) (eqv_self (sh_Is []))))) rfl fun w13 r13 => ?_
        exact on_next (on_nx (r12.trans r13) (x13.trans r13.g) (.same (.same (.same (.same (.same (.no (.same (.same (.no (.no .nil)))))))))))
      · intro w12 _ r12 x12
        refine on_ret r12 (D1 := fun d => d = .bool true) ?_ rt
        have hsh : SeqAt.shaped (.list ((ts.map (KM.T.turn fun j => ks.getD j 0)).map tD)) = true := sh_Ts fun t ht => by
          obtain ⟨u, hu, rfl⟩ := List.mem_map.mp ht
          rw [turn_hgt]
          have := (hts u hu).1
          omega
        refine EvD.to (ev_ope (d := .list ((ts.map (KM.T.turn fun j => ks.getD j 0)).map tD)) (EvD.to (EvN.eve (ev_lc (js := [8]) ts tD (ei_list (ev_var rfl)) (by omega) (by simp)
          (fun t => [.raw (.ref sc), .dat (bD sg rs), .dat (.int (m : Int)), .dat (.list (ks.map iD)), .dat (bD sg cu), .no, .dat (trD (ts.map (KM.T.turn fun j => ks.getD j 0))), .dat (trD ts), .dat (tD t), .no]) (fun t => tD (t.turn fun j => ks.getD j 0)) (fun t _ => tg_name) fun t ht => ev_call (ea_conse (ev_var rfl) (ea_conse (ev_var rfl) ea_nil)) ⟨t, ks, by have := (hts t ht).1; omega, hbl t ht, rfl, rfl⟩)) (by rw [List.map_map]; rfl)) (ev_var rfl) (rd_eq hsh hsh)) (congrArg PyData.bool (eqv_self hsh))⟩
end
end U
end

section
set_option maxRecDepth 100000
set_option maxHeartbeats 4000000
/-! What the top has written, put together. -/
namespace U
open PySem PySem.Spec PyProof.Rows L2 HT2
structure DefI (K : PySem.W.Frag) (x : Str) (st : Stmt) : Prop where
  ex : ∃ (f : Addr) (oc : Value) (od : Option Addr) (kV doc pm : Value) (an : Option Addr) (cdv ct : Value) (osl : Array (Option Value)), PySem.W.nsIn K mainGlobals x = some (some (.ref f)) ∧
    K.lookup f = some ⟨oc, od, .func (PySem.W.fnOf x x (defArgs st) (defBody st) (defScope st) .none kV doc pm an cdv ct), osl⟩ ∧ PySem.W.codeIn K cdv x = true ∧ PySem.W.keepIn K (.ref f) = true
theorem def_I {K : PySem.W.Frag} {x : Str} {st : Stmt} {f : Addr} {oc : Value} {od : Option Addr} {kV doc pm : Value} {an : Option Addr} {cdv ct : Value} {osl : Array (Option Value)} (a : PySem.W.nsIn K mainGlobals x = some (some (.ref f)))
    (l : K.lookup f = some ⟨oc, od, .func (PySem.W.fnOf x x (defArgs st) (defBody st) (defScope st) .none kV doc pm an cdv ct), osl⟩) (c : PySem.W.codeIn K cdv x = true) (k : PySem.W.keepIn K (.ref f) = true) : DefI K x st := ⟨⟨f, oc, od, kV, doc, pm, an, cdv, ct, osl, a, l, c, k⟩⟩
theorem int_I {K : PySem.W.Frag} {d : Addr} {x : Str} {i : Int} {t : Tok} (a : PySem.W.nsIn K d x = some (some (.int i t))) : ∃ t, PySem.W.nsIn K d x = some (some (.int i t)) := ⟨t, a⟩
theorem def_T {K : PySem.W.Frag} {h0 : Heap} {mg : Str → Option Value} {x : Str} {st : Stmt} {ps : List Str} (h : DefI K x st) (X : K.In h0) (G : h0.Ns mainGlobals mg)
    (b : ∀ (kV doc pm : Value) (an : Option Addr) (cdv ct : Value) (us : List Value), us.length = ps.length → bindArgs (PySem.W.fnOf x x (defArgs st) (defBody st) (defScope st) .none kV doc pm an cdv ct) ⟨us, []⟩ = pure (ps.zip us)) : DefT K mg x st ps := by
  obtain ⟨f, oc, od, kV, doc, pm, an, cdv, ct, osl, a, l, c, k⟩ := h.ex
  have F := fun_mk (st := st) l c k
  exact ⟨⟨f, _, F, PySem.W.mg_of X G a, F.binds b⟩⟩
theorem exm_own {K : PySem.W.Frag} {S : Addr} (h1 : PySem.W.subIn K (.ref S) (.type "BaseException") = some true) (h2 : PySem.W.isClsIn K S = true) (h3 : PySem.W.typeIn K (.ref S) = some (.type "type")) (h4 : PySem.W.subIn K (.ref S) (.ref S) = some true) :
    PySem.W.exmOne K (.ref S) (.ref S) = some true := by
  have e1 : (PySem.W.subIn K (.ref S) (.type "BaseException") == some true) = true := by rw [h1] <;> rfl
  have h2' : (PySem.W.clsIn K S).isSome = true := h2
  have e2 : ((PySem.W.clsIn K S).isSome && PySem.W.typeIn K (.ref S) == some (.type "type")) = true := by
    rw [h2', h3] <;> rfl
  show (if (PySem.W.subIn K (.ref S) (.type "BaseException") == some true) = true then (if ((PySem.W.clsIn K S).isSome && PySem.W.typeIn K (.ref S) == some (.type "type")) = true then PySem.W.subIn K (.ref S) (.ref S) else none) else none) = some true
  rw [if_pos e1, if_pos e2]
  exact h4
theorem kit_no {K : PySem.W.Frag} (h : PySem.W.subIn K (.type "int") (.type "bool") = some false) : PySem.W.kitOne K (.type "int") (.type "bool") = some false := by
  unfold PySem.W.kitOne PySem.W.kitCls
  rw [if_neg (by decide +kernel)]
  show (if PySem.W.kitMeta "bool" = true then PySem.W.subIn K (.type "int") (.type "bool") else none) = some false
  rw [if_pos (by decide +kernel)]
  exact h
theorem all_mk {l : PySem.W.OpenLaw} {w : World} {K : PySem.W.Frag} {h : Heap} {mg : Str → Option Value} {fa : Addr} (X : K.In h) (G : h.Ns mainGlobals mg) (hfa : mg "law" = some (.ref fa))
    (his_number : DefI K "is_number" s_is_number)
    (hnumbers_fit : DefI K "numbers_fit" s_numbers_fit)
    (hinner_of : DefI K "inner_of" s_inner_of)
    (hdeep_of : DefI K "deep_of" s_deep_of)
    (his_formula : DefI K "is_formula" s_is_formula)
    (hnames_in : DefI K "names_in" s_names_in)
    (his_from : DefI K "is_from" s_is_from)
    (his_sign : DefI K "is_sign" s_is_sign)
    (hworths_of_place : DefI K "worths_of_place" s_worths_of_place)
    (hnames_told : DefI K "names_told" s_names_told)
    (his_making : DefI K "is_making" s_is_making)
    (his_rule : DefI K "is_rule" s_is_rule)
    (his_book : DefI K "is_book" s_is_book)
    (hlook_at_book : DefI K "look_at_book" s_look_at_book)
    (hlook_at_sign : DefI K "look_at_sign" s_look_at_sign)
    (hlesser_tree : DefI K "lesser_tree" s_lesser_tree)
    (hleast_trees : DefI K "least_trees" s_least_trees)
    (hleast_tree : DefI K "least_tree" s_least_tree)
    (halive_rules : DefI K "alive_rules" s_alive_rules)
    (huseful_rules : DefI K "useful_rules" s_useful_rules)
    (hcut_book : DefI K "cut_book" s_cut_book)
    (hchoices_of : DefI K "choices_of" s_choices_of)
    (hparted : DefI K "parted" s_parted)
    (htree_counts : DefI K "tree_counts" s_tree_counts)
    (htrees_of : DefI K "trees_of" s_trees_of)
    (htrees_to : DefI K "trees_to" s_trees_to)
    (h_law_mixed : DefI K "_law_mixed" s__law_mixed)
    (h_law_cell : DefI K "_law_cell" s__law_cell)
    (h_law_take : DefI K "_law_take" s__law_take)
    (h_law_formula : DefI K "_law_formula" s__law_formula)
    (h_law_told : DefI K "_law_told" s__law_told)
    (h_law_names : DefI K "_law_names" s__law_names)
    (h_law_rule : DefI K "_law_rule" s__law_rule)
    (h_law_book : DefI K "_law_book" s__law_book)
    (h_law_turned : DefI K "_law_turned" s__law_turned)
    (h_law_trees : DefI K "_law_trees" s__law_trees)
    (h_law_rules : DefI K "_law_rules" s__law_rules)
    (hlaw : DefI K "law" s_law)
    (zlen : PySem.W.nsIn K mainGlobals "len" = some none)
    (zisinstance : PySem.W.nsIn K mainGlobals "isinstance" = some none)
    (zint : PySem.W.nsIn K mainGlobals "int" = some none)
    (zbool : PySem.W.nsIn K mainGlobals "bool" = some none)
    (zstr : PySem.W.nsIn K mainGlobals "str" = some none)
    (ztuple : PySem.W.nsIn K mainGlobals "tuple" = some none)
    (zlist : PySem.W.nsIn K mainGlobals "list" = some none)
    (zall : PySem.W.nsIn K mainGlobals "all" = some none)
    (zsum : PySem.W.nsIn K mainGlobals "sum" = some none)
    (zabs : PySem.W.nsIn K mainGlobals "abs" = some none)
    (zrange : PySem.W.nsIn K mainGlobals "range" = some none)
    (zenumerate : PySem.W.nsIn K mainGlobals "enumerate" = some none)
    (zzip : PySem.W.nsIn K mainGlobals "zip" = some none)
    (zsorted : PySem.W.nsIn K mainGlobals "sorted" = some none)
    (qMOST_PARTS_formulas : ∃ t, PySem.W.nsIn K mainGlobals "MOST_PARTS_formulas" = some (some (.int 15 t)))
    (qMOST_DEEP : ∃ t, PySem.W.nsIn K mainGlobals "MOST_DEEP" = some (some (.int 4 t)))
    (qMOST_SIGNS : ∃ t, PySem.W.nsIn K mainGlobals "MOST_SIGNS" = some (some (.int 4 t)))
    (qMOST_RULES : ∃ t, PySem.W.nsIn K mainGlobals "MOST_RULES" = some (some (.int 8 t)))
    (qMOST_WORTHS : ∃ t, PySem.W.nsIn K mainGlobals "MOST_WORTHS" = some (some (.int 2 t)))
    (qMOST_PARTS_books : ∃ t, PySem.W.nsIn K mainGlobals "MOST_PARTS_books" = some (some (.int 2 t)))
    (qMOST_LISTED : ∃ t, PySem.W.nsIn K mainGlobals "MOST_LISTED" = some (some (.int 9 t)))
    (qMOST_TREES : ∃ t, PySem.W.nsIn K mainGlobals "MOST_TREES" = some (some (.int 300 t)))
    {dW C : Addr} {es : Array DictEntry} {en : Nat} (aW : PySem.W.nsIn K mainGlobals "WORDS" = some (some (.ref dW))) (lW : K.lookup dW = some ⟨.type "dict", none, .dict es en, #[]⟩) (kW : PySem.W.KeysLit w.params es.toList) (oW : (dW == sysModules) = false)
    (wsum : ∃ t, PySem.W.nsIn K dW "sum" = some (some (.int 2 t)))
    (wless : ∃ t, PySem.W.nsIn K dW "less" = some (some (.int 2 t)))
    (wleast : ∃ t, PySem.W.nsIn K dW "least" = some (some (.int 2 t)))
    (wgreatest : ∃ t, PySem.W.nsIn K dW "greatest" = some (some (.int 2 t)))
    (wpick : ∃ t, PySem.W.nsIn K dW "pick" = some (some (.int 3 t)))
    (wtimes : ∃ t, PySem.W.nsIn K dW "times" = some (some (.int 1 t)))
    (wrest : ∃ t, PySem.W.nsIn K dW "rest" = some (some (.int 1 t)))
    (wnum : ∃ t, PySem.W.nsIn K dW "num" = some (some (.int 0 t)))
    (wworth : ∃ t, PySem.W.nsIn K dW "worth" = some (some (.int 0 t)))
    (ib : PySem.W.subIn K (.type "int") (.type "bool") = some false)
    (aC : PySem.W.nsIn K mainGlobals "TooMany" = some (some (.ref C))) (xC : PySem.W.excIn K C [.type "ValueError", .type "Exception", .type "BaseException", .type "object"] "ValueError.__new__" = true) (kC : PySem.W.keepIn K (.ref C) = true)
    (bC : PySem.W.subIn K (.ref C) (.type "BaseException") = some true) (tC : PySem.W.typeIn K (.ref C) = some (.type "type")) (iC : PySem.W.isClsIn K C = true) (sC : PySem.W.subIn K (.ref C) (.ref C) = some true) :
    ∃ fd : FuncData, (∀ (s : Shared) (v : Value), BindsTo s fd ⟨[v], []⟩ [("_law_script", v)]) ∧ ∀ base : Heap, K.In base → base.Ns mainGlobals mg → FnOk l.prog w K mg base L2.CX0 20 fa fd ["_law_script"] (spR K pre_law rel_law) := by
  have T : Txt l.prog w K mg dW := {
    len := PySem.W.mg_none_of X G zlen
    isinstance := PySem.W.mg_none_of X G zisinstance
    int := PySem.W.mg_none_of X G zint
    bool := PySem.W.mg_none_of X G zbool
    str := PySem.W.mg_none_of X G zstr
    tuple := PySem.W.mg_none_of X G ztuple
    list := PySem.W.mg_none_of X G zlist
    all := PySem.W.mg_none_of X G zall
    sum := PySem.W.mg_none_of X G zsum
    abs := PySem.W.mg_none_of X G zabs
    range := PySem.W.mg_none_of X G zrange
    enumerate := PySem.W.mg_none_of X G zenumerate
    zip := PySem.W.mg_none_of X G zzip
    sorted := PySem.W.mg_none_of X G zsorted
    g_MOST_PARTS_formulas := by obtain ⟨t, e⟩ := qMOST_PARTS_formulas; exact ⟨t, PySem.W.mg_of X G e⟩
    g_MOST_DEEP := by obtain ⟨t, e⟩ := qMOST_DEEP; exact ⟨t, PySem.W.mg_of X G e⟩
    g_MOST_SIGNS := by obtain ⟨t, e⟩ := qMOST_SIGNS; exact ⟨t, PySem.W.mg_of X G e⟩
    g_MOST_RULES := by obtain ⟨t, e⟩ := qMOST_RULES; exact ⟨t, PySem.W.mg_of X G e⟩
    g_MOST_WORTHS := by obtain ⟨t, e⟩ := qMOST_WORTHS; exact ⟨t, PySem.W.mg_of X G e⟩
    g_MOST_PARTS_books := by obtain ⟨t, e⟩ := qMOST_PARTS_books; exact ⟨t, PySem.W.mg_of X G e⟩
    g_MOST_LISTED := by obtain ⟨t, e⟩ := qMOST_LISTED; exact ⟨t, PySem.W.mg_of X G e⟩
    g_MOST_TREES := by obtain ⟨t, e⟩ := qMOST_TREES; exact ⟨t, PySem.W.mg_of X G e⟩
    g_WORDS := PySem.W.mg_of X G aW
    words := ⟨es, en, lW, kW, oW⟩
    w_sum := wsum
    w_less := wless
    w_least := wleast
    w_greatest := wgreatest
    w_pick := wpick
    w_times := wtimes
    w_rest := wrest
    w_num := wnum
    w_worth := wworth
    int_bool := kit_no ib
    d_is_number := def_T his_number X G fun _ _ _ _ _ _ us hl => match us, hl with | [_], _ => rfl
    d_numbers_fit := def_T hnumbers_fit X G fun _ _ _ _ _ _ us hl => match us, hl with | [_], _ => rfl
    d_inner_of := def_T hinner_of X G fun _ _ _ _ _ _ us hl => match us, hl with | [_], _ => rfl
    d_deep_of := def_T hdeep_of X G fun _ _ _ _ _ _ us hl => match us, hl with | [_, _], _ => rfl
    d_is_formula := def_T his_formula X G fun _ _ _ _ _ _ us hl => match us, hl with | [_], _ => rfl
    d_names_in := def_T hnames_in X G fun _ _ _ _ _ _ us hl => match us, hl with | [_], _ => rfl
    d_is_from := def_T his_from X G fun _ _ _ _ _ _ us hl => match us, hl with | [_, _, _], _ => rfl
    d_is_sign := def_T his_sign X G fun _ _ _ _ _ _ us hl => match us, hl with | [_], _ => rfl
    d_worths_of_place := def_T hworths_of_place X G fun _ _ _ _ _ _ us hl => match us, hl with | [_, _, _], _ => rfl
    d_names_told := def_T hnames_told X G fun _ _ _ _ _ _ us hl => match us, hl with | [_, _], _ => rfl
    d_is_making := def_T his_making X G fun _ _ _ _ _ _ us hl => match us, hl with | [_, _, _], _ => rfl
    d_is_rule := def_T his_rule X G fun _ _ _ _ _ _ us hl => match us, hl with | [_, _], _ => rfl
    d_is_book := def_T his_book X G fun _ _ _ _ _ _ us hl => match us, hl with | [_], _ => rfl
    d_look_at_book := def_T hlook_at_book X G fun _ _ _ _ _ _ us hl => match us, hl with | [_], _ => rfl
    d_look_at_sign := def_T hlook_at_sign X G fun _ _ _ _ _ _ us hl => match us, hl with | [_, _], _ => rfl
    d_lesser_tree := def_T hlesser_tree X G fun _ _ _ _ _ _ us hl => match us, hl with | [_, _], _ => rfl
    d_least_trees := def_T hleast_trees X G fun _ _ _ _ _ _ us hl => match us, hl with | [_], _ => rfl
    d_least_tree := def_T hleast_tree X G fun _ _ _ _ _ _ us hl => match us, hl with | [_, _], _ => rfl
    d_alive_rules := def_T halive_rules X G fun _ _ _ _ _ _ us hl => match us, hl with | [_], _ => rfl
    d_useful_rules := def_T huseful_rules X G fun _ _ _ _ _ _ us hl => match us, hl with | [_], _ => rfl
    d_cut_book := def_T hcut_book X G fun _ _ _ _ _ _ us hl => match us, hl with | [_], _ => rfl
    d_choices_of := def_T hchoices_of X G fun _ _ _ _ _ _ us hl => match us, hl with | [_], _ => rfl
    d_parted := def_T hparted X G fun _ _ _ _ _ _ us hl => match us, hl with | [_, _], _ => rfl
    d_tree_counts := def_T htree_counts X G fun _ _ _ _ _ _ us hl => match us, hl with | [_, _], _ => rfl
    d_trees_of := def_T htrees_of X G fun _ _ _ _ _ _ us hl => match us, hl with | [_, _, _, _], _ => rfl
    d_trees_to := def_T htrees_to X G fun _ _ _ _ _ _ us hl => match us, hl with | [_, _, _], _ => rfl
    d__law_mixed := def_T h_law_mixed X G fun _ _ _ _ _ _ us hl => match us, hl with | [_, _], _ => rfl
    d__law_cell := def_T h_law_cell X G fun _ _ _ _ _ _ us hl => match us, hl with | [_, _], _ => rfl
    d__law_take := def_T h_law_take X G fun _ _ _ _ _ _ us hl => match us, hl with | [_, _], _ => rfl
    d__law_formula := def_T h_law_formula X G fun _ _ _ _ _ _ us hl => match us, hl with | [_, _, _], _ => rfl
    d__law_told := def_T h_law_told X G fun _ _ _ _ _ _ us hl => match us, hl with | [_, _, _], _ => rfl
    d__law_names := def_T h_law_names X G fun _ _ _ _ _ _ us hl => match us, hl with | [_, _, _, _], _ => rfl
    d__law_rule := def_T h_law_rule X G fun _ _ _ _ _ _ us hl => match us, hl with | [_, _, _, _, _], _ => rfl
    d__law_book := def_T h_law_book X G fun _ _ _ _ _ _ us hl => match us, hl with | [_, _], _ => rfl
    d__law_turned := def_T h_law_turned X G fun _ _ _ _ _ _ us hl => match us, hl with | [_, _], _ => rfl
    d__law_trees := def_T h_law_trees X G fun _ _ _ _ _ _ us hl => match us, hl with | [_, _], _ => rfl
    d__law_rules := def_T h_law_rules X G fun _ _ _ _ _ _ us hl => match us, hl with | [_], _ => rfl
    d_law := def_T hlaw X G fun _ _ _ _ _ _ us hl => match us, hl with | [_], _ => rfl
  }
  have E : TxtE K mg C := ⟨PySem.W.mg_of X G aC, xC, kC, bC, tC, exm_own bC iC tC sC⟩
  obtain ⟨f, oc, od, kV, doc, pm, an, cdv, ct, osl, a, lk, c, k⟩ := hlaw.ex
  have e := hfa.symm.trans (PySem.W.mg_of X G a)
  cases e
  have F := fun_mk (st := s_law) lk c k
  exact ⟨_, fun s v => .of_eq rfl, fun base _ _ => ok_law T E F⟩
end U
end

section
set_option maxRecDepth 100000
set_option maxHeartbeats 4000000
open PySem PySem.W PyProof.Rows
set_option maxHeartbeats 0 in
theorem PySem.Challenge.cw_updownworths_k12_whole_books_cut_holds : PySem.Challenge.rw_updownworths_k12_whole_books_cut.Holds := by
  w_on; o_law; k_head; (case hw => w_witness2)
  k_fill
  refine L2.walk_of (l := PySem.Challenge.rw_updownworths_k12_whole_books_cut) (n := 63) (k := 20) (x := "_law_script") (CX := fun _ => L2.CX0) (sp := fun w => U.spR _ U.pre_law U.rel_law) rfl (by decide) rfl ⟨rfl, by decide, by decide⟩ (fun w h Y => PySem.W.kIn_of Y) ?F (fun _ H a ns hl _ hS => ⟨⟨fun _ => none, H, fun _ _ h => by cases h⟩, a, ns, [], [], rfl, rfl, hS, .nil, ⟨hl, rfl⟩, fun v w2 r ⟨d, h1, h2⟩ => by subst h1; exact h2.blV⟩) (fun _ _ _ _ _ h => h)
  case F =>
    intro w mg fa h KX G hmg
    refine' U.all_mk KX G hmg ?his_number ?hnumbers_fit ?hinner_of ?hdeep_of ?his_formula ?hnames_in ?his_from ?his_sign ?hworths_of_place ?hnames_told ?his_making ?his_rule ?his_book ?hlook_at_book ?hlook_at_sign ?hlesser_tree ?hleast_trees ?hleast_tree ?halive_rules ?huseful_rules ?hcut_book ?hchoices_of ?hparted ?htree_counts ?htrees_of ?htrees_to ?h_law_mixed ?h_law_cell ?h_law_take ?h_law_formula ?h_law_told ?h_law_names ?h_law_rule ?h_law_book ?h_law_turned ?h_law_trees ?h_law_rules ?hlaw ?zlen ?zisinstance ?zint ?zbool ?zstr ?ztuple ?zlist ?zall ?zsum ?zabs ?zrange ?zenumerate ?zzip ?zsorted ?qMOST_PARTS_formulas ?qMOST_DEEP ?qMOST_SIGNS ?qMOST_RULES ?qMOST_WORTHS ?qMOST_PARTS_books ?qMOST_LISTED ?qMOST_TREES ?aW ?lW ?kW ?oW ?wsum ?wless ?wleast ?wgreatest ?wpick ?wtimes ?wrest ?wnum ?wworth ?ib ?aC ?xC ?kC ?bC ?tC ?iC ?sC
    (case his_number => refine' U.def_I ?a0 ?l0 ?c0 ?k0; (case a0 => k_is); (case l0 => k_is); (case c0 => k_is); (case k0 => k_is))
    (case hnumbers_fit => refine' U.def_I ?a1 ?l1 ?c1 ?k1; (case a1 => k_is); (case l1 => k_is); (case c1 => k_is); (case k1 => k_is))
    (case hinner_of => refine' U.def_I ?a2 ?l2 ?c2 ?k2; (case a2 => k_is); (case l2 => k_is); (case c2 => k_is); (case k2 => k_is))
    (case hdeep_of => refine' U.def_I ?a3 ?l3 ?c3 ?k3; (case a3 => k_is); (case l3 => k_is); (case c3 => k_is); (case k3 => k_is))
    (case his_formula => refine' U.def_I ?a4 ?l4 ?c4 ?k4; (case a4 => k_is); (case l4 => k_is); (case c4 => k_is); (case k4 => k_is))
    (case hnames_in => refine' U.def_I ?a5 ?l5 ?c5 ?k5; (case a5 => k_is); (case l5 => k_is); (case c5 => k_is); (case k5 => k_is))
    (case his_from => refine' U.def_I ?a6 ?l6 ?c6 ?k6; (case a6 => k_is); (case l6 => k_is); (case c6 => k_is); (case k6 => k_is))
    (case his_sign => refine' U.def_I ?a7 ?l7 ?c7 ?k7; (case a7 => k_is); (case l7 => k_is); (case c7 => k_is); (case k7 => k_is))
    (case hworths_of_place => refine' U.def_I ?a8 ?l8 ?c8 ?k8; (case a8 => k_is); (case l8 => k_is); (case c8 => k_is); (case k8 => k_is))
    (case hnames_told => refine' U.def_I ?a9 ?l9 ?c9 ?k9; (case a9 => k_is); (case l9 => k_is); (case c9 => k_is); (case k9 => k_is))
    (case his_making => refine' U.def_I ?a10 ?l10 ?c10 ?k10; (case a10 => k_is); (case l10 => k_is); (case c10 => k_is); (case k10 => k_is))
    (case his_rule => refine' U.def_I ?a11 ?l11 ?c11 ?k11; (case a11 => k_is); (case l11 => k_is); (case c11 => k_is); (case k11 => k_is))
    (case his_book => refine' U.def_I ?a12 ?l12 ?c12 ?k12; (case a12 => k_is); (case l12 => k_is); (case c12 => k_is); (case k12 => k_is))
    (case hlook_at_book => refine' U.def_I ?a13 ?l13 ?c13 ?k13; (case a13 => k_is); (case l13 => k_is); (case c13 => k_is); (case k13 => k_is))
    (case hlook_at_sign => refine' U.def_I ?a14 ?l14 ?c14 ?k14; (case a14 => k_is); (case l14 => k_is); (case c14 => k_is); (case k14 => k_is))
    (case hlesser_tree => refine' U.def_I ?a15 ?l15 ?c15 ?k15; (case a15 => k_is); (case l15 => k_is); (case c15 => k_is); (case k15 => k_is))
    (case hleast_trees => refine' U.def_I ?a16 ?l16 ?c16 ?k16; (case a16 => k_is); (case l16 => k_is); (case c16 => k_is); (case k16 => k_is))
    (case hleast_tree => refine' U.def_I ?a17 ?l17 ?c17 ?k17; (case a17 => k_is); (case l17 => k_is); (case c17 => k_is); (case k17 => k_is))
    (case halive_rules => refine' U.def_I ?a18 ?l18 ?c18 ?k18; (case a18 => k_is); (case l18 => k_is); (case c18 => k_is); (case k18 => k_is))
    (case huseful_rules => refine' U.def_I ?a19 ?l19 ?c19 ?k19; (case a19 => k_is); (case l19 => k_is); (case c19 => k_is); (case k19 => k_is))
    (case hcut_book => refine' U.def_I ?a20 ?l20 ?c20 ?k20; (case a20 => k_is); (case l20 => k_is); (case c20 => k_is); (case k20 => k_is))
    (case hchoices_of => refine' U.def_I ?a21 ?l21 ?c21 ?k21; (case a21 => k_is); (case l21 => k_is); (case c21 => k_is); (case k21 => k_is))
    (case hparted => refine' U.def_I ?a22 ?l22 ?c22 ?k22; (case a22 => k_is); (case l22 => k_is); (case c22 => k_is); (case k22 => k_is))
    (case htree_counts => refine' U.def_I ?a23 ?l23 ?c23 ?k23; (case a23 => k_is); (case l23 => k_is); (case c23 => k_is); (case k23 => k_is))
    (case htrees_of => refine' U.def_I ?a24 ?l24 ?c24 ?k24; (case a24 => k_is); (case l24 => k_is); (case c24 => k_is); (case k24 => k_is))
    (case htrees_to => refine' U.def_I ?a25 ?l25 ?c25 ?k25; (case a25 => k_is); (case l25 => k_is); (case c25 => k_is); (case k25 => k_is))
    (case h_law_mixed => refine' U.def_I ?a26 ?l26 ?c26 ?k26; (case a26 => k_is); (case l26 => k_is); (case c26 => k_is); (case k26 => k_is))
    (case h_law_cell => refine' U.def_I ?a27 ?l27 ?c27 ?k27; (case a27 => k_is); (case l27 => k_is); (case c27 => k_is); (case k27 => k_is))
    (case h_law_take => refine' U.def_I ?a28 ?l28 ?c28 ?k28; (case a28 => k_is); (case l28 => k_is); (case c28 => k_is); (case k28 => k_is))
    (case h_law_formula => refine' U.def_I ?a29 ?l29 ?c29 ?k29; (case a29 => k_is); (case l29 => k_is); (case c29 => k_is); (case k29 => k_is))
    (case h_law_told => refine' U.def_I ?a30 ?l30 ?c30 ?k30; (case a30 => k_is); (case l30 => k_is); (case c30 => k_is); (case k30 => k_is))
    (case h_law_names => refine' U.def_I ?a31 ?l31 ?c31 ?k31; (case a31 => k_is); (case l31 => k_is); (case c31 => k_is); (case k31 => k_is))
    (case h_law_rule => refine' U.def_I ?a32 ?l32 ?c32 ?k32; (case a32 => k_is); (case l32 => k_is); (case c32 => k_is); (case k32 => k_is))
    (case h_law_book => refine' U.def_I ?a33 ?l33 ?c33 ?k33; (case a33 => k_is); (case l33 => k_is); (case c33 => k_is); (case k33 => k_is))
    (case h_law_turned => refine' U.def_I ?a34 ?l34 ?c34 ?k34; (case a34 => k_is); (case l34 => k_is); (case c34 => k_is); (case k34 => k_is))
    (case h_law_trees => refine' U.def_I ?a35 ?l35 ?c35 ?k35; (case a35 => k_is); (case l35 => k_is); (case c35 => k_is); (case k35 => k_is))
    (case h_law_rules => refine' U.def_I ?a36 ?l36 ?c36 ?k36; (case a36 => k_is); (case l36 => k_is); (case c36 => k_is); (case k36 => k_is))
    (case hlaw => refine' U.def_I ?a37 ?l37 ?c37 ?k37; (case a37 => k_is); (case l37 => k_is); (case c37 => k_is); (case k37 => k_is))
    (case zlen => k_is)
    (case zisinstance => k_is)
    (case zint => k_is)
    (case zbool => k_is)
    (case zstr => k_is)
    (case ztuple => k_is)
    (case zlist => k_is)
    (case zall => k_is)
    (case zsum => k_is)
    (case zabs => k_is)
    (case zrange => k_is)
    (case zenumerate => k_is)
    (case zzip => k_is)
    (case zsorted => k_is)
    (case qMOST_PARTS_formulas => refine' U.int_I ?qqMOST_PARTS_formulas; (case qqMOST_PARTS_formulas => k_is))
    (case qMOST_DEEP => refine' U.int_I ?qqMOST_DEEP; (case qqMOST_DEEP => k_is))
    (case qMOST_SIGNS => refine' U.int_I ?qqMOST_SIGNS; (case qqMOST_SIGNS => k_is))
    (case qMOST_RULES => refine' U.int_I ?qqMOST_RULES; (case qqMOST_RULES => k_is))
    (case qMOST_WORTHS => refine' U.int_I ?qqMOST_WORTHS; (case qqMOST_WORTHS => k_is))
    (case qMOST_PARTS_books => refine' U.int_I ?qqMOST_PARTS_books; (case qqMOST_PARTS_books => k_is))
    (case qMOST_LISTED => refine' U.int_I ?qqMOST_LISTED; (case qqMOST_LISTED => k_is))
    (case qMOST_TREES => refine' U.int_I ?qqMOST_TREES; (case qqMOST_TREES => k_is))
    (case aW => k_is)
    (case lW => k_is)
    (case kW => exact ⟨⟨_, _, rfl, rfl⟩, ⟨_, _, rfl, rfl⟩, ⟨_, _, rfl, rfl⟩, ⟨_, _, rfl, rfl⟩, ⟨_, _, rfl, rfl⟩, ⟨_, _, rfl, rfl⟩, ⟨_, _, rfl, rfl⟩, ⟨_, _, rfl, rfl⟩, ⟨_, _, rfl, rfl⟩, True.intro⟩)
    (case oW => first | rfl | decide)
    (case wsum => refine' U.int_I ?wwsum; (case wwsum => k_is))
    (case wless => refine' U.int_I ?wwless; (case wwless => k_is))
    (case wleast => refine' U.int_I ?wwleast; (case wwleast => k_is))
    (case wgreatest => refine' U.int_I ?wwgreatest; (case wwgreatest => k_is))
    (case wpick => refine' U.int_I ?wwpick; (case wwpick => k_is))
    (case wtimes => refine' U.int_I ?wwtimes; (case wwtimes => k_is))
    (case wrest => refine' U.int_I ?wwrest; (case wwrest => k_is))
    (case wnum => refine' U.int_I ?wwnum; (case wwnum => k_is))
    (case wworth => refine' U.int_I ?wwworth; (case wwworth => k_is))
    (case ib => k_is)
    (case aC => k_is); (case xC => k_exc); (case kC => k_is); (case bC => k_is); (case tC => k_is); (case iC => k_is); (case sC => first | rfl | k_is)
end
